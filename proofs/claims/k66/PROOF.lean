import PyProof.Rows.All
import Wide.All
import OpenK.AllK
import Wide.FinOn
import HandS.ForMost
import HandS.Defaults
import HandS.WideBits
import HandS.Conv
import HandS.IsInst
import HandS.RaiseMore
import HandS.SortInts
import HandS.Style
import HandS.Codes
import HandS.ForExc
import HandS.TryMany
import HandS.Flow
import KE.KEqSeq
import PyProof.ReprRoads
import KE.GoesMore
import PySem.Challenge.RW_joinedasks_k66_asks_by_any_table
set_option Elab.async false
set_option linter.all false
set_option maxRecDepth 100000
set_option maxHeartbeats 4000000
set_option exponentiation.threshold 100000
namespace Toy
open PySem PySem.Spec PyProof.Rows L2
/-- a def of the text stands behind its name -/
structure Df (K : PySem.W.Frag) (mg : Str → Option Value) (x : Str) (st : Stmt) (ps : List Str) : Prop where
  ex : ∃ f fd, Fun K x x st f fd ∧ mg x = some (.ref f) ∧ Binds K fd ps []
theorem Df.of {K : PySem.W.Frag} {mg : Str → Option Value} {x : Str} {st : Stmt} {ps : List Str} {f : Addr} {oc : Value} {od an : Option Addr} {osl : Array (Option Value)} {kV doc pm cdv ct : Value}
    (l : K.lookup f = some ⟨oc, od, .func (PySem.W.fnOf x x (defArgs st) (defBody st) (defScope st) .none kV doc pm an cdv ct), osl⟩) (c : PySem.W.codeIn K cdv x = true) (k : PySem.W.keepIn K (.ref f) = true) (m : mg x = some (.ref f))
    (h : ∀ (kV doc pm : Value) (an : Option Addr) (cdv ct : Value) (us : List Value), us.length = ps.length → bindArgs (PySem.W.fnOf x x (defArgs st) (defBody st) (defScope st) .none kV doc pm an cdv ct) ⟨us, []⟩ = pure (ps.zip us)) : Df K mg x st ps :=
  ⟨_, _, fun_mk l c k, m, (fun_mk l c k).binds h⟩
end Toy
namespace Toy
open PySem PySem.Spec PyProof.Rows L2
/-- room for calls, and nothing is being shown (repr, str of containers ask that) -/
structure RoomG (k : Nat) (A : Around) : Prop where
  room : Room k A
  idle : A.guards = some []
theorem RoomG.less {j k : Nat} {A : Around} (r : RoomG k A) (h : j ≤ k) : RoomG j A := ⟨r.room.mono h, r.idle⟩
theorem RoomG.units {k : Nat} {A : Around} (r : RoomG k A) : A.units + 64 < cLine := r.room.units
theorem RoomG.in_ {k : Nat} {A : Around} (r : RoomG (k + 1) A) (env : Env) : RoomG k (A.deeper env) := ⟨r.room.deeper env, r.idle⟩
/-- a def's promise under such a call -/
structure FnG (P : Program) (w : World) (K : PySem.W.Frag) (mg : Str → Option Value) (base : Heap) (CX : CXT) (k : Nat) (f : Addr) (fd : FuncData) (ps : List Str) (sp : Sp) : Prop where
  arity : ∀ vs H Q E, sp vs H Q E → vs.length = ps.length
  go : ∀ {A : Around} {outer : List Env} {s : Shared} {H : Hp} {args : Args} {us : List Value} {vs : List V} {Q : VK} {E : XK}, RoomG k A → Env0 P w K mg base A outer s H →
    BindsTo s fd args (ps.zip us) → Vals vs us → sp vs H Q E → codeAny (model P w) A (.call (.ref f) args) (CR CX outer P w H s Q E) s
section
variable {P : Program} {w : World} {K : PySem.W.Frag} {mg : Str → Option Value} {base : Heap} {CX : CXT}
/-- a body that ends well ends the call well -/
theorem flow_end {N : List Str} {qual : Str} {scope : Scope} {f : Addr} {cd : Value} {A : Around} {outer : List Env} {s : Shared} {H : Hp} {Q : VK} {E : XK} {fl : Flow} {s' : Shared}
    (h : SP (cxOf CX P w K mg base N qual scope f cd A outer s H E) [] { nx := fun _ H' => Q .non H', rt := Q } fl s') :
    ∃ u, (fl = .next ∧ u = Value.none ∨ fl = .ret u) ∧ CE outer P w H s Q u s' := by
  cases fl with
  | next =>
    obtain ⟨σ, H1, J, q⟩ := h
    exact ⟨_, .inl ⟨rfl, rfl⟩, .non, H1, J.os, J.bare, J.base, J.hok, rfl, q⟩
  | ret u =>
    obtain ⟨v, σ, H1, J, r, q⟩ := h
    exact ⟨u, .inr rfl, v, H1, J.os, J.bare, J.base, J.hok, r, q⟩
  | brk =>
    obtain ⟨_, _, _, q⟩ := h
    cases q
  | cont =>
    obtain ⟨_, _, _, q⟩ := h
    cases q
/-- a def of the text, whatever its defaults -/
structure FunA (K : PySem.W.Frag) (x qual : Str) (st : Stmt) (f : Addr) (fd : FuncData) : Prop where
  ex : ∃ (oc : Value) (od : Option Addr) (dV kV doc pm : Value) (an : Option Addr) (cdv ct : Value) (osl : Array (Option Value)),
    fd = PySem.W.fnOf x qual (defArgs st) (defBody st) (defScope st) dV kV doc pm an cdv ct ∧ K.lookup f = some ⟨oc, od, .func fd, osl⟩ ∧ PySem.W.codeIn K cdv qual = true
theorem toA {K : PySem.W.Frag} {x qual : Str} {st : Stmt} {f : Addr} {fd : FuncData} (F : Fun K x qual st f fd) : FunA K x qual st f fd := by
  obtain ⟨oc, od, kV, doc, pm, an, cdv, ct, osl, e, lk, hcd⟩ := F.ex
  exact ⟨⟨oc, od, .none, kV, doc, pm, an, cdv, ct, osl, e, lk, hcd⟩⟩
theorem okGA {x qual : Str} {st : Stmt} {f : Addr} {fd : FuncData} {N ps : List Str} {k : Nat} {sp : Sp} (F : FunA K x qual st f fd) (S : FnScope N ps (defScope st)) (ar : ∀ vs H Q E, sp vs H Q E → vs.length = ps.length)
    (body : ∀ (cdv : Value) (A : Around) (outer : List Env) (s : Shared) (H : Hp) (vs : List V) (Q : VK) (E : XK), RoomG k (A.deeper (envOfC qual (defScope st) s.heap.objs.size f cdv)) → sp vs H Q E →
      ∃ t, PSs (cxOf CX P w K mg base N qual (defScope st) f cdv A outer s H E) (defBody st) t ∧ t { nx := fun _ H' => Q .non H', rt := Q } (start N vs) H) : FnG P w K mg base CX (k + 1) f fd ps sp := by
  obtain ⟨oc, od, dV, kV, doc, pm, an, cdv, ct, osl, rfl, lk, hcd⟩ := F.ex
  refine ⟨ar, ?_⟩
  intro A outer s H args us vs Q E room e0 hb rv hsp
  have kin : K.In s.heap := e0.mod.kin.keeps fun b o z => (e0.bs b o z).1
  have nolim : s.heap.NoLimit := e0.mod.nolimit.keeps fun b o z => (e0.bs b o z).1
  have kinds : ∀ y ∈ ps.zip us, (defScope st).names.lookup y.1 = some .local ∨ ((defScope st).names.lookup y.1 = some .cell ∧ ((cellsFrom (s.heap.objs.size + 1) (defScope st).names []).lookup y.1).isSome = true) := by
    rintro ⟨n, v⟩ hy
    exact (S.par n (List.of_mem_zip hy).1).imp _root_.id fun q => ⟨q, PySem.W.cellsFrom_some _ _ _ (.inl q)⟩
  refine codeAny_call_function room.room.depth (kin _ _ lk) rfl S.co S.gen rfl (PySem.W.codeRec_of kin hcd) (hb _ _ _ _ (wpAny_newFunctionEnv_cells S.kind kinds fun env he s1 inC => ?_))
  subst he
  obtain ⟨t, ht, hq⟩ := body cdv A outer s H vs Q E (room.in_ _) hsp
  refine ⟨nolim.keeps inC.toInCall.keep, codeAny_func (wpAny_mono (ht.run [] s1 (start N vs) H _ (inv_start S room.room.hd e0 (ar _ _ _ _ hsp) rv inC) hq) (fun fl s' z => ?_) fun e s' z => z)⟩
  obtain ⟨u, c, q⟩ := flow_end z
  rcases c with ⟨rfl, rfl⟩ | rfl
  · exact q
  · exact q
theorem okG0A {x qual : Str} {st : Stmt} {f : Addr} {fd : FuncData} {N ps : List Str} {k : Nat} {sp : Sp} (F : FunA K x qual st f fd) (S : FnScope N ps (defScope st)) (ar : ∀ vs H Q E, sp vs H Q E → vs.length = ps.length)
    (body : ∀ (cdv : Value) (A : Around) (outer : List Env) (s : Shared) (H : Hp) (vs : List V) (Q : VK) (E : XK), RoomG k (A.deeper (envOfC qual (defScope st) s.heap.objs.size f cdv)) → sp vs H Q E →
      ∃ t, PSs (cxOf CX0 P w K mg base N qual (defScope st) f cdv A outer s H E).nox (defBody st) t ∧ t { nx := fun _ H' => Q .non H', rt := Q } (start N vs) H) : FnG P w K mg base CX0 (k + 1) f fd ps sp :=
  okGA F S ar fun cdv A outer s H vs Q E hr hsp => (body cdv A outer s H vs Q E hr hsp).imp fun _ z => ⟨z.1.nox, z.2⟩
theorem okG {x qual : Str} {st : Stmt} {f : Addr} {fd : FuncData} {N ps : List Str} {k : Nat} {sp : Sp} (F : Fun K x qual st f fd) (S : FnScope N ps (defScope st)) (ar : ∀ vs H Q E, sp vs H Q E → vs.length = ps.length)
    (body : ∀ (cdv : Value) (A : Around) (outer : List Env) (s : Shared) (H : Hp) (vs : List V) (Q : VK) (E : XK), RoomG k (A.deeper (envOfC qual (defScope st) s.heap.objs.size f cdv)) → sp vs H Q E →
      ∃ t, PSs (cxOf CX P w K mg base N qual (defScope st) f cdv A outer s H E) (defBody st) t ∧ t { nx := fun _ H' => Q .non H', rt := Q } (start N vs) H) : FnG P w K mg base CX (k + 1) f fd ps sp :=
  okGA (toA F) S ar body
theorem okG0 {x qual : Str} {st : Stmt} {f : Addr} {fd : FuncData} {N ps : List Str} {k : Nat} {sp : Sp} (F : Fun K x qual st f fd) (S : FnScope N ps (defScope st)) (ar : ∀ vs H Q E, sp vs H Q E → vs.length = ps.length)
    (body : ∀ (cdv : Value) (A : Around) (outer : List Env) (s : Shared) (H : Hp) (vs : List V) (Q : VK) (E : XK), RoomG k (A.deeper (envOfC qual (defScope st) s.heap.objs.size f cdv)) → sp vs H Q E →
      ∃ t, PSs (cxOf CX0 P w K mg base N qual (defScope st) f cdv A outer s H E).nox (defBody st) t ∧ t { nx := fun _ H' => Q .non H', rt := Q } (start N vs) H) : FnG P w K mg base CX0 (k + 1) f fd ps sp :=
  okG0A (toA F) S ar body
end
section
variable {X : Cx} {CX : CXT} {k : Nat} {f : Addr} {fd : FuncData} {ps : List Str} {sp : Sp}
theorem run_G {pins : List (Addr × Obj)} {σ : L2.St} {H : Hp} {s : Shared} {Q : VK} {E : XK} {us : List Value} {vs : List V} (F : FnG X.prog X.w X.K X.mg X.base CX k f fd ps sp) (hr : RoomG k X.A) (hb : Binds X.K fd ps [])
    (out : ∀ e s', CX X.stack H s E e s' → X.xe e s') (I : Inv X pins σ H s) (r : Vals vs us) (h : sp vs H Q E) : wpAny (model X.prog X.w) X.A (call (.ref f) us) (EP X pins σ Q) X.xe s := by
  have n := (r.length).symm.trans (F.arity _ _ _ _ h)
  have b := hb s us I.kIn (by rw [List.append_nil, n])
  rw [List.append_nil] at b
  refine wpAny_call (codeAny_mono (F.go hr I.env0 b r h) ?_)
  rintro (e | fl) s' q
  · exact out e s' q
  · match fl, q with
    | .ret u, q => exact I.after q
/-- a def and its promise, by its name -/
structure Dn (P : Program) (w : World) (K : PySem.W.Frag) (mg : Str → Option Value) (base : Heap) (k : Nat) (x : Str) (ps : List Str) (sp : Sp) : Prop where
  ex : ∃ f fd, FnG P w K mg base CX0 k f fd ps sp ∧ PySem.W.keepIn K (.ref f) = true ∧ mg x = some (.ref f) ∧ Binds K fd ps []
/-- .. that may raise -/
structure Dx (P : Program) (w : World) (K : PySem.W.Frag) (mg : Str → Option Value) (base : Heap) (k : Nat) (x : Str) (ps : List Str) (sp : Sp) : Prop where
  ex : ∃ f fd, FnG P w K mg base (L2.CX P w) k f fd ps sp ∧ PySem.W.keepIn K (.ref f) = true ∧ mg x = some (.ref f) ∧ Binds K fd ps []
theorem Df.ok {P : Program} {w : World} {K : PySem.W.Frag} {mg : Str → Option Value} {base : Heap} {x : Str} {st : Stmt} (D : Df K mg x st ps)
    (h : ∀ f fd, Fun K x x st f fd → FnG P w K mg base CX0 k f fd ps sp) : Dn P w K mg base k x ps sp := by
  obtain ⟨f, fd, F, m, b⟩ := D.ex
  exact ⟨f, fd, h f fd F, F.kp, m, b⟩
theorem Df.okX {P : Program} {w : World} {K : PySem.W.Frag} {mg : Str → Option Value} {base : Heap} {x : Str} {st : Stmt} (D : Df K mg x st ps)
    (h : ∀ f fd, Fun K x x st f fd → FnG P w K mg base (L2.CX P w) k f fd ps sp) : Dx P w K mg base k x ps sp := by
  obtain ⟨f, fd, F, m, b⟩ := D.ex
  exact ⟨f, fd, h f fd F, F.kp, m, b⟩
variable {x : Str} {p pos : Pos} {e : Expr} {es : List Expr} {t : TA}
theorem pe_cD (D : Dn X.prog X.w X.K X.mg X.base k x ps sp) (hr : RoomG k X.A) (hg : Gl X x) (ha : PA X (e :: es) t) (hdb : (x == ("__debug__" : Str)) = false := by decide)
    (he : starEach (e :: es) X.env = (false, eval e X.env) :: starEach es X.env := by rfl) (hpl : (backTo pos (starEach es X.env)).any (·.1) = false := by rfl) : PE X (.Call (.Name x p) (e :: es) [] pos) (tCall sp [] E0 t) := by
  obtain ⟨f, fd, F, hk, hm, hb⟩ := D.ex
  refine ⟨fun pins s σ H Q I h => wpAny_Call_Name_kw (ld_glob I hg hm (PySem.W.callWith_K (h₀ := X.base) I.ok.mod.kin hk (thn (ha.run pos pins s σ H _ I h) fun us s1 ⟨vs, H1, I1, r, q⟩ => ⟨I1.kIn, ?_⟩) he hpl) hdb)⟩
  have q' : sp vs H1 Q E0 := by
    have z : sp (vs ++ []) H1 Q E0 := q
    rw [List.append_nil] at z
    exact z
  exact run_G F hr hb (fun _ _ z => z.elim) I1 r q'
theorem pe_cD0 (D : Dn X.prog X.w X.K X.mg X.base k x ps sp) (hr : RoomG k X.A) (hg : Gl X x) (hdb : (x == ("__debug__" : Str)) = false := by decide) : PE X (.Call (.Name x p) [] [] pos) (tCall sp [] E0 tNil) := by
  obtain ⟨f, fd, F, hk, hm, hb⟩ := D.ex
  refine ⟨fun pins s σ H Q I h => wpAny_Call_Name_kw (ld_glob I hg hm (PySem.W.callWith_K0 I.kIn hk (run_G (us := []) F hr hb (fun _ _ z => z.elim) I .nil h)) hdb)⟩
/-- a def with defaults: dvs fill up -/
structure Dfd (K : PySem.W.Frag) (mg : Str → Option Value) (x : Str) (st : Stmt) (ps : List Str) (dvs : List V) : Prop where
  ex : ∃ (f : Addr) (fd : FuncData) (ds : List Value), FunA K x x st f fd ∧ PySem.W.keepIn K (.ref f) = true ∧ mg x = some (.ref f) ∧ Binds K fd ps ds ∧ Vals dvs ds
theorem Dfd.of {K : PySem.W.Frag} {mg : Str → Option Value} {x : Str} {st : Stmt} {ps : List Str} {dvs : List V} {f T : Addr} {oc : Value} {od an : Option Addr} {osl : Array (Option Value)} {kV doc pm cdv ct : Value} {o : Obj} {its : List Value} {n m : Nat}
    (l : K.lookup f = some ⟨oc, od, .func (PySem.W.fnOf x x (defArgs st) (defBody st) (defScope st) (.ref T) kV doc pm an cdv ct), osl⟩) (c : PySem.W.codeIn K cdv x = true) (k : PySem.W.keepIn K (.ref f) = true) (mx : mg x = some (.ref f))
    (lT : K.lookup T = some o) (oT : o.data = .seq its.toArray m) (rT : Vals dvs its) (hn : n + dvs.length = ps.length)
    (h : ∀ (us : List Value), us.length = n → ∃ kk, bindArgs (PySem.W.fnOf x x (defArgs st) (defBody st) (defScope st) (.ref T) kV doc pm an cdv ct) ⟨us, []⟩ = seqItems? (.ref T) >>= kk ∧ kk (some its.toArray) = pure (ps.zip (us ++ its))) : Dfd K mg x st ps dvs := by
  refine ⟨f, _, its, ⟨⟨_, _, _, _, _, _, _, _, _, _, rfl, l, c⟩⟩, k, mx, fun s us X hlen => ?_, rT⟩
  have l1 := rT.length
  have l2 : us.length = n := by
    rw [List.length_append] at hlen
    omega
  obtain ⟨kk, e1, e2⟩ := h us l2
  refine BindsTo.of_looks fun M => ?_
  rw [e1]
  exact looks_items X lT oT (.of_pure e2)
/-- .. and its promise -/
structure DnD (P : Program) (w : World) (K : PySem.W.Frag) (mg : Str → Option Value) (base : Heap) (k : Nat) (x : Str) (ps : List Str) (dvs : List V) (sp : Sp) : Prop where
  ex : ∃ (f : Addr) (fd : FuncData) (ds : List Value), FnG P w K mg base CX0 k f fd ps sp ∧ PySem.W.keepIn K (.ref f) = true ∧ mg x = some (.ref f) ∧ Binds K fd ps ds ∧ Vals dvs ds
theorem Dfd.ok {P : Program} {w : World} {K : PySem.W.Frag} {mg : Str → Option Value} {base : Heap} {x : Str} {st : Stmt} {dvs : List V} (D : Dfd K mg x st ps dvs)
    (h : ∀ f fd, FunA K x x st f fd → FnG P w K mg base CX0 k f fd ps sp) : DnD P w K mg base k x ps dvs sp := by
  obtain ⟨f, fd, ds, F, kp, m, b, d⟩ := D.ex
  exact ⟨f, fd, ds, h f fd F, kp, m, b, d⟩
theorem run_Gd {pins : List (Addr × Obj)} {σ : L2.St} {H : Hp} {s : Shared} {Q : VK} {E : XK} {us ds : List Value} {vs dvs : List V} (F : FnG X.prog X.w X.K X.mg X.base CX k f fd ps sp) (hr : RoomG k X.A) (hb : Binds X.K fd ps ds) (hd : Vals dvs ds)
    (out : ∀ e s', CX X.stack H s E e s' → X.xe e s') (I : Inv X pins σ H s) (r : Vals vs us) (h : sp (vs ++ dvs) H Q E) : wpAny (model X.prog X.w) X.A (call (.ref f) us) (EP X pins σ Q) X.xe s := by
  have r2 : Vals (vs ++ dvs) (us ++ ds) := r.append hd
  have n : (us ++ ds).length = ps.length := by rw [← r2.length]; exact F.arity _ _ _ _ h
  refine wpAny_call (codeAny_mono (F.go hr I.env0 (hb s us I.kIn n) r2 h) ?_)
  rintro (e | fl) s' q
  · exact out e s' q
  · match fl, q with
    | .ret u, q => exact I.after q
theorem pe_cDd {dvs : List V} (D : DnD X.prog X.w X.K X.mg X.base k x ps dvs sp) (hr : RoomG k X.A) (hg : Gl X x) (ha : PA X (e :: es) t) (hdb : (x == ("__debug__" : Str)) = false := by decide)
    (he : starEach (e :: es) X.env = (false, eval e X.env) :: starEach es X.env := by rfl) (hpl : (backTo pos (starEach es X.env)).any (·.1) = false := by rfl) : PE X (.Call (.Name x p) (e :: es) [] pos) (tCall sp dvs E0 t) := by
  obtain ⟨f, fd, ds, F, hk, hm, hb, hd⟩ := D.ex
  refine ⟨fun pins s σ H Q I h => wpAny_Call_Name_kw (ld_glob I hg hm (PySem.W.callWith_K (h₀ := X.base) I.ok.mod.kin hk (thn (ha.run pos pins s σ H _ I h) fun us s1 ⟨vs, H1, I1, r, q⟩ => ⟨I1.kIn, ?_⟩) he hpl) hdb)⟩
  exact run_Gd F hr hb hd (fun _ _ z => z.elim) I1 r q
/-- a call within a try: what is raised is wished at the slots -/
theorem pe_cX {E : L2.St → XK} (D : Dx X.prog X.w X.K X.mg X.base k x ps sp) (hr : RoomG k X.A) (hg : Gl X x) (hx : ∀ σ, PassesAt (L2.CX X.prog X.w) X σ (E σ)) (ha : PA X (e :: es) t) (hdb : (x == ("__debug__" : Str)) = false := by decide)
    (he : starEach (e :: es) X.env = (false, eval e X.env) :: starEach es X.env := by rfl) (hpl : (backTo pos (starEach es X.env)).any (·.1) = false := by rfl) : PE X (.Call (.Name x p) (e :: es) [] pos) (tCallS sp E t) := by
  obtain ⟨f, fd, F, hk, hm, hb⟩ := D.ex
  exact ⟨fun pins s σ H Q I h => wpAny_Call_Name_kw (ld_glob I hg hm (PySem.W.callWith_K (h₀ := X.base) I.ok.mod.kin hk (thn (ha.run pos pins s σ H _ I h) fun us s1 ⟨vs, H1, I1, r, q⟩ =>
    ⟨I1.kIn, run_G F hr hb (fun e s' z => hx σ pins H1 s1 e s' I1 z) I1 r q⟩) he hpl) hdb)⟩
/-- repr of what is data -/
def rRepr (K : PySem.W.Frag) : List V → Hp → VK → Prop := fun xs H Q => ∃ (x : V) (d : PyData), xs = [x] ∧ Dp K H x d ∧ d.showable = true ∧ d.depth ≤ 60 ∧ d.shown.length ≤ sizeLine ∧ Q (.str d.shown) H
mutual
theorem dp_noDict {K : PySem.W.Frag} {H : Hp} : ∀ (d : PyData) (x : V), Dp K H x d → d.hasDict = false
  | .none, _, _ => rfl
  | .bool _, _, _ => rfl
  | .int _, _, _ => rfl
  | .str _, _, _ => rfl
  | .list ds, _, h => by
    cases h with
    | lst _ ha => simpa [PyData.hasDict] using dp_noDicts ds _ ha
  | .tuple ds, _, h => by
    cases h with
    | tup _ ha => simpa [PyData.hasDict] using dp_noDicts ds _ ha
  | .dict _, _, h => by cases h
theorem dp_noDicts {K : PySem.W.Frag} {H : Hp} : ∀ (ds : List PyData) (xs : List V), DpAll K H xs ds → PyData.hasDictAll ds = false
  | [], _, _ => by simp [PyData.hasDictAll]
  | d :: ds, _, h => by
    cases h with
    | cons a b => simp [PyData.hasDictAll, dp_noDict d _ a, dp_noDicts ds _ b]
end
theorem reprK {K : PySem.W.Frag} (hr : RoomG k X.A) (eK : X.K = K := by rfl) : CallR X (.builtin "repr") (rRepr K) := by
  cases eK
  intro pins s σ H xs us Q I r h
  obtain ⟨x, d, rfl, hd, hs, hdep, hz, q⟩ := h
  obtain ⟨u, rfl, rx⟩ := vals1 r
  obtain ⟨as, rd⟩ := Dp.reads I d x u hd rx
  have hu := hr.units
  have nd := dp_noDict d x hd
  cases hd with
  | non => cases rx; exact PySem.P.repr_of_none ⟨.str _, H, I.tok _, ⟨_, rfl⟩, q⟩
  | bl b => cases rx; exact PySem.P.repr_of_bool ⟨.str _, H, I.tok _, ⟨_, rfl⟩, q⟩
  | int i => obtain ⟨t, rfl⟩ := rx; exact PySem.P.repr_of_int (of_decide_eq_true (by simpa [PyData.showable] using hs)) ⟨.str _, H, I.tok _, ⟨_, rfl⟩, q⟩
  | str z => obtain ⟨t, rfl⟩ := rx; exact PySem.P.repr_of_str ⟨.str _, H, I.tok _, ⟨_, rfl⟩, q⟩ hz
  | lst hq ha =>
    cases rx
    refine repr_of_reads' rd hs (PyData.noDict_hsm nd) hr.idle (by omega) (fun _ _ z => z) (fun h' u tk hk => ⟨.str _, H, I.kept hk, ⟨_, rfl⟩, q⟩) hz
  | tup hq ha =>
    cases rx
    refine repr_of_reads' rd hs (PyData.noDict_hsm nd) hr.idle (by omega) (fun _ _ z => z) (fun h' u tk hk => ⟨.str _, H, I.kept hk, ⟨_, rfl⟩, q⟩) hz
end
end Toy
namespace Toy
open PySem PySem.Spec PyProof.Rows L2
/-- what was tracked stays, but for one object -/
def But (p : Addr) (H H' : Hp) : Prop := ∀ b o, b ≠ p → H b = some o → H' b = some o
theorem But.refl {p : Addr} {H : Hp} : But p H H := fun _ _ _ h => h
theorem But.trans {p : Addr} {H H1 H2 : Hp} (a : But p H H1) (b : But p H1 H2) : But p H H2 := fun c o n h => b c o n (a c o n h)
theorem But.free {p : Addr} {H H' : Hp} (e : But p H H') {l : Addr} (n : l ≠ p) (h : H' l = Option.none) : H l = Option.none := by
  cases q : H l with
  | none => rfl
  | some o =>
    rw [e l o n q] at h
    cases h
theorem same_but {p : Addr} {H H' : Hp} (a : Same H H') : But p H H' := fun c o _ h => a c o h
theorem But.upd {p : Addr} {H : Hp} {o : HO} : But p H (upd H p o) := fun b u n h => by rw [upd_ne n]; exact h
theorem same_new {H : Hp} {p : Addr} (h : H p = none) (o : HO) : Same H (upd H p o) := fun b u q => by rw [upd_ne (ne_of_none q h)]; exact q
theorem but_tup {p : Addr} {K : PySem.W.Frag} {H H' : Hp} {a : Addr} {xs ys : List V} (e : But p H H') (hp : H p = some (.lst ys)) (h : SqT K H a xs) : SqT K H' a xs := by
  rcases h with (h | ⟨o, h⟩) | h
  · exact .inl (.inl (e _ _ (ne_of h hp (by intro z; cases z)) h))
  · exact .inl (.inr ⟨o, e _ _ (ne_of h hp (by intro z; cases z)) h⟩)
  · exact .inr h
theorem same_tup {K : PySem.W.Frag} {H H' : Hp} {a : Addr} {xs : List V} (e : Same H H') (h : SqT K H a xs) : SqT K H' a xs := by
  rcases h with (h | ⟨o, h⟩) | h
  · exact .inl (.inl (e _ _ h))
  · exact .inl (.inr ⟨o, e _ _ h⟩)
  · exact .inr h
/-- the script stays -/
theorem but_seq {p : Addr} {K : PySem.W.Frag} {H H' : Hp} {a : Addr} {xs : List V} (e : But p H H') (n : a ≠ p) (h : SqL K H a xs) : SqL K H' a xs := by
  rcases h with (h | ⟨o, h⟩) | h
  · exact .inl (.inl (e _ _ n h))
  · exact .inl (.inr ⟨o, e _ _ n h⟩)
  · exact .inr h
theorem small {n : Nat} (h : n ≤ 1000) : n ≤ sizeLine := Nat.le_of_lt (small1000 h)
theorem log_lt {i : Int} {n : Nat} (h0 : 0 < n) (h : i.natAbs < 2 ^ n) : i.natAbs.log2 < n := PySem.Flt.log2_lt_of h0 h
theorem divp_small {i j : Int} (hj : 0 < j) (h : j < 2 ^ 8000) : CDivP i j := by
  refine ⟨hj, PyProof.noPylong_of_log2 ?_⟩
  exact Nat.lt_trans (log_lt (n := 8000) (by decide) (by omega)) (by decide)
end Toy
namespace Toy
open PySem PySem.Spec PyProof.Rows L2
theorem ifT {c : Bool} {A B : Prop} (hc : c = true) (h : A) : if c = true then A else B := by rw [if_pos hc]; exact h
theorem ifF {c : Bool} {A B : Prop} (hc : c = false) (h : B) : if c = true then A else B := by rw [hc]; exact iteF h
theorem pj {j : Int} (h : decide ((0 : Int) < j) = true := by decide) : 0 < j := of_decide_eq_true h
theorem sz {xs : List V} (h : Nat.ble xs.length 1000 = true := by rfl) : xs.length ≤ sizeLine := small (Nat.le_of_ble_eq_true h)
theorem but_same {p : Addr} {H H1 H2 : Hp} (n : H p = none) (a : Same H H1) (b : But p H1 H2) : Same H H2 := fun c o h => b c o (ne_of_none h n) (a c o h)
/-- two ways of a value meet -/
theorem ifE {ta tb : TE} {σ : L2.St} {H : Hp} {Q : VK} {b : Bool} (R : V → Hp → Prop) (h : ∀ v H', R v H' → Q v H') (h1 : b = true → ∀ Q' : VK, (∀ v H', R v H' → Q' v H') → ta σ H Q') (h2 : b = false → ∀ Q' : VK, (∀ v H', R v H' → Q' v H') → tb σ H Q') :
    if b = true then ta σ H Q else tb σ H Q := by
  cases b with
  | true => exact iteT (h1 rfl Q h)
  | false => exact iteF (h2 rfl Q h)
theorem mulx {i j : Int} (a b : Nat) (ha : i.natAbs < 2 ^ a) (hb : j.natAbs < 2 ^ b) (h : a + b ≤ 134217728 := by decide) : CMulX i j := mulx_ok ha hb h
end Toy
namespace Toy
open PySem PySem.Spec PyProof.Rows L2
theorem qi {Q : VK} {H : Hp} {a b : Int} (q : Q (.int a) H) (e : a = b) : Q (.int b) H := e ▸ q
end Toy
namespace Toy
open PySem PySem.Spec PyProof.Rows L2
/-- the written part by its letter -/
theorem kk {α : Sort _} {P : α → Prop} {F : PySem.W.Frag → α} {K0 K : PySem.W.Frag} (h : P (F K0)) (e : K0 = K := by rfl) : P (F K) := e ▸ h
def rLen (K : PySem.W.Frag) : List V → Hp → VK → Prop := fun xs H Q => ∃ p ys, xs = [.ref p] ∧ (SqL K H p ys ∨ SqT K H p ys) ∧ Q (.int ys.length) H
theorem lenK {X : Cx} {K : PySem.W.Frag} (e : X.K = K := by rfl) : CallR X (.builtin "len") (rLen K) := by cases e; exact call_len_seq
def rLstOf (K : PySem.W.Frag) : List V → Hp → VK → Prop := fun xs H Q => ∃ p ys, xs = [.ref p] ∧ (SqL K H p ys ∨ SqT K H p ys) ∧ ∀ l, H l = none → Q (.ref l) (upd H l (.lst ys))
theorem lstOfK {X : Cx} {K : PySem.W.Frag} (e : X.K = K := by rfl) : CallR X (.type "list") (rLstOf K) := by cases e; exact call_list_of
def rTupOf (K : PySem.W.Frag) : List V → Hp → VK → Prop := fun xs H Q => ∃ p ys, xs = [.ref p] ∧ ((SqL K H p ys ∧ ∀ l, H l = none → Q (.ref l) (upd H l (.tup ys))) ∨ (SqT K H p ys ∧ Q (.ref p) H))
theorem tupOfK {X : Cx} {K : PySem.W.Frag} (e : X.K = K := by rfl) : CallR X (.type "tuple") (rTupOf K) := by cases e; exact call_tuple_of
theorem dec_ne {α : Type} [DecidableEq α] {a b : α} (h : a = b) : (!decide (a = b)) = false := by rw [decide_eq_true h] <;> rfl
end Toy
namespace Toy
open PySem PySem.Spec PyProof.Rows L2
/-- a tuple of the written part; a tuple that never changes -/
def KTup (K : PySem.W.Frag) (a : Addr) (xs : List V) : Prop := ∃ (o : Obj) (its : Array Value) (n : Nat), K.lookup a = some o ∧ o.cls = .type "tuple" ∧ o.data = .seq its n ∧ its.size ≤ sizeLine ∧ Vals xs its.toList
def TupAt (K : PySem.W.Frag) (H : Hp) (a : Addr) (xs : List V) : Prop := H a = some (.tup xs) ∨ KTup K a xs
theorem TupAt.sq {K : PySem.W.Frag} {H : Hp} {a : Addr} {xs : List V} (h : TupAt K H a xs) : SqT K H a xs := by
  rcases h with h | h
  · exact SqT.of h
  · exact .inr h
theorem TupAt.ty {K : PySem.W.Frag} {H : Hp} {a : Addr} {xs : List V} (h : TupAt K H a xs) : TyX K H (.ref a) (.type "tuple") := by
  rcases h with h | ⟨o, its, n, h1, h2, _⟩
  · exact .base (.tup h)
  · exact .kTuple h1 h2
theorem TupAt.same {K : PySem.W.Frag} {H H' : Hp} {a : Addr} {xs : List V} (e : Same H H') (h : TupAt K H a xs) : TupAt K H' a xs := h.imp (e _ _) id
theorem TupAt.but {K : PySem.W.Frag} {H H' : Hp} {a p : Addr} {xs ys : List V} (e : But p H H') (hp : H p = some (.lst ys)) (h : TupAt K H a xs) : TupAt K H' a xs := h.imp (fun h => e _ _ (ne_of h hp (by intro z; cases z)) h) id
end Toy
namespace Toy
open PySem PySem.Spec PyProof.Rows L2
theorem ints_dp {K : PySem.W.Frag} {H : Hp} : ∀ ns : List Int, DpAll K H (ns.map V.int) (ns.map PyData.int)
  | [] => .nil
  | n :: r => .cons (.int n) (ints_dp r)
theorem ints_sh (ns : List Int) : SeqAt.shaped (.list (ns.map PyData.int)) = true := PySem.W.ke_shaped_ints ns
theorem ints_refl (ns : List Int) : PyData.eqv (.list (ns.map PyData.int)) (.list (ns.map PyData.int)) = true := SeqAt.eqv_refl _ (SeqAt.canLay_of_shaped (ints_sh ns))
theorem lst_dp {K : PySem.W.Frag} {H : Hp} {a : Addr} {ns : List Int} (h : SqL K H a (ns.map V.int)) : Dp K H (.ref a) (.list (ns.map PyData.int)) := .lst h (ints_dp ns)
theorem tupI_dp {K : PySem.W.Frag} {H : Hp} {a : Addr} {ns : List Int} (h : SqT K H a (ns.map V.int)) : Dp K H (.ref a) (.tuple (ns.map PyData.int)) := .tup h (ints_dp ns)
theorem tupI_sh (ns : List Int) : SeqAt.shaped (.tuple (ns.map PyData.int)) = true := ints_sh ns
theorem tupI_refl (ns : List Int) : PyData.eqv (.tuple (ns.map PyData.int)) (.tuple (ns.map PyData.int)) = true := SeqAt.eqv_refl _ (SeqAt.canLay_of_shaped (tupI_sh ns))
theorem cut_map (us : List Int) (lo hi : Option Int) : ∃ ws : List Int, cutV (us.map V.int) lo hi = ws.map V.int ∧ ws.length ≤ us.length ∧ ∀ x ∈ ws, x ∈ us := by
  refine ⟨(us.drop (HT.sIx (us.map V.int).length 0 lo)).take (HT.sIx (us.map V.int).length (us.map V.int).length hi - HT.sIx (us.map V.int).length 0 lo), ?_, ?_, fun x hx => List.mem_of_mem_drop (List.mem_of_mem_take hx)⟩
  · unfold cutV; rw [List.map_take, List.map_drop]
  · rw [List.length_take, List.length_drop]; omega
theorem at_map {us : List Int} {i : Nat} {y : V} (h : (us.map V.int)[i]? = some y) : ∃ x : Int, y = .int x ∧ us[i]? = some x := by
  rw [List.getElem?_map] at h
  cases e : us[i]? with
  | none => rw [e] at h; cases h
  | some x => rw [e] at h; exact ⟨x, (Option.some.inj h).symm, rfl⟩
end Toy
namespace Toy
open PySem PySem.Spec PyProof.Rows L2
/-- the heap in which the script alone stands, unless the text's own part holds it -/
def scriptH (K : PySem.W.Frag) (a : Addr) (o : Obj) (ns : List Int) : Hp := fun c => if (K.lookup a).isNone = true ∧ c = a then some (.frz o (.lst (ns.map V.int))) else none
theorem scriptH_none {K : PySem.W.Frag} {a b : Addr} {o : Obj} {ns : List Int} : scriptH K a o ns b = none ∨ (b = a ∧ K.lookup a = none ∧ scriptH K a o ns b = some (.frz o (.lst (ns.map V.int)))) := by
  unfold scriptH
  by_cases c : (K.lookup a).isNone = true ∧ b = a
  · exact .inr ⟨c.2, Option.isNone_iff_eq_none.mp c.1, if_pos c⟩
  · exact .inl (if_neg c)
theorem law_G {P : Program} {w : World} {K : PySem.W.Frag} {mg mb : Str → Option Value} {k : Nat} {fa a : Addr} {fd : FuncData} {x : Str} {sp : Sp} {s : Shared} {vs : List Value} {ns : List Int}
    (KX : K.In s.heap) (hns : s.heap.Ns mainGlobals mg) (hb : s.heap.Ns builtinsNs mb) (hbb : ∀ x : Str, x ≠ "__name__" → mb x = bootBuiltins x) (hlim : s.heap.NoLimit) (hg : s.gens = #[])
    (ha : s.heap.get? a = some { cls := .type "list", data := .seq vs.toArray }) (hi : IntsAre vs ns) (hl : ns.length ≤ sizeLine) (hr : Room k PySem.callerA)
    (F : ∀ base : Heap, K.In base → base.Ns mainGlobals mg → FnG P w K mg base CX0 k fa fd [x] sp) (hbind : ∀ (s : Shared) (u : Value), BindsTo s fd ⟨[u], []⟩ [(x, u)])
    (hsp : ∀ H : Hp, SqL K H a (ns.map V.int) → sp [.ref a] H (fun v _ => v = .bl true) fun _ _ _ => False) :
    codeAny (model P w) PySem.callerA (.call (.ref fa) ⟨[.ref a], []⟩) (fun r s' => r = .ok (.ret (.bool true)) ∧ OldK s.heap s'.heap ∧ s'.os = s.os ∧ AllBare s'.gens) s := by
  let H : Hp := scriptH K a { cls := .type "list", data := .seq vs.toArray } ns
  have hH : ∀ b, H b = none ∨ (b = a ∧ K.lookup a = none ∧ H b = some (.frz { cls := .type "list", data := .seq vs.toArray } (.lst (ns.map V.int)))) := fun b => scriptH_none
  have rv := vals_ints hi
  have hok : HOk P w H s.heap := by
    intro b u e
    rcases hH b with z | ⟨rfl, _, z⟩
    · rw [z] at e; cases e
    · rw [z] at e
      cases e
      exact ⟨ha, by rw [List.length_map]; exact hl, vs, _, rv, ha⟩
  have hS : SqL K H a (ns.map V.int) := by
    cases q : K.lookup a with
    | none => exact .inl (.inr ⟨_, show scriptH K a _ ns a = _ from if_pos ⟨by rw [q] <;> rfl, rfl⟩⟩)
    | some o =>
      have e := KX a o q
      rw [ha] at e
      cases e
      exact .inr ⟨_, vs.toArray, _, q, rfl, rfl, rfl, by rw [List.size_toArray, hi.length]; exact hl, by simpa using rv⟩
  -- what is no list is not the script
  have notA : ∀ {b : Addr} {o : Obj} {es : Array DictEntry} {ep : Nat}, s.heap.get? b = some o → o.data = .dict es ep → H b = none := by
    intro b o es ep e d
    rcases hH b with z | ⟨rfl, _, _⟩
    · exact z
    · rw [ha] at e
      cases e
      cases (show Data.seq vs.toArray _ = Data.dict es ep from d)
  have ns' : ∀ {b : Addr} {m : Str → Option Value}, s.heap.Ns b m → (hidT s.heap H).Ns b m := by
    rintro b m ⟨o, es, ep, e, d, r⟩
    exact ⟨o, es, ep, hidT_get e (notA e d), d, r⟩
  have kin' : K.In (hidT s.heap H) := by
    intro b o e
    refine hidT_get (KX b o e) ?_
    rcases hH b with z | ⟨rfl, q, _⟩
    · exact z
    · rw [q] at e; cases e
  have md : Mod K mg (hidT s.heap H) := ⟨kin', ns' hns, ⟨mb, ns' hb, hbb⟩, hlim.imp fun _ z => ⟨ns' z.1, z.2⟩⟩
  have e0 : Env0 P w K mg (hidT s.heap H) PySem.callerA [] s H := ⟨rfl, md, fun _ _ z => of_hidT z, Nat.le_of_eq (hidT_size _ _), trivial, (by intro b z; cases z), hok, .of_eq hg⟩
  refine codeAny_mono ((F _ kin' (ns' hns)).go (us := [.ref a]) (vs := [.ref a]) ⟨hr, rfl⟩ e0 (hbind s (.ref a)) (.cons rfl .nil) (hsp H hS)) ?_
  rintro (e | fl) s' q
  · exact q.elim
  match fl, q with
  | .ret u, ⟨v, H', os, bare, un, ok', r', q⟩ =>
    have q' : v = .bl true := q
    subst q'
    obtain rfl : u = Value.bool true := r'
    refine ⟨rfl, OldK.of_keep fun b o e => ?_, os, bare⟩
    rcases hH b with z | ⟨_, _, z⟩
    · exact un.keep b o e z (by intro y; cases y) (by intro y; cases y)
    · have z1 := (hok b _ z).1
      have z2 := (ok' b _ (un.frzs b _ _ z)).1
      rw [e] at z1
      cases z1
      exact z2
theorem walk_G {l : PySem.W.OpenLaw} {n k : Nat} {q : Program} {loose : List Str} {XP : (Str → Option Value) → Heap → Prop} {YP : World → Heap → Prop} {d : DefRec} {K : Params → PySem.W.Frag} {sp : PySem.W.Frag → Sp} {x : Str}
    (hn : l.most = some n) (hn2 : n ≤ sizeLine) (hdf : d.params.defaults = []) (hr : Room k PySem.callerA) (hY : ∀ (w : World) (h : Heap), YP w h → (K w.params).In h)
    (F : ∀ (w : World) (mg : Str → Option Value) (fa : Addr) (h : Heap), (K w.params).In h → h.Ns mainGlobals mg → mg d.name = some (.ref fa) →
      ∃ fd : FuncData, (∀ (s : Shared) (u : Value), BindsTo s fd ⟨[u], []⟩ [(x, u)]) ∧ ∀ base : Heap, (K w.params).In base → base.Ns mainGlobals mg → FnG l.prog w (K w.params) mg base CX0 k fa fd [x] (sp (K w.params)))
    (hsp : ∀ (K : PySem.W.Frag) (H : Hp) (a : Addr) (ns : List Int), ns.length ≤ n → SqL K H a (ns.map V.int) → sp K [.ref a] H (fun v _ => v = .bl true) fun _ _ _ => False) :
    PySem.W.WalkO q loose XP YP l.row.toRowW d [] (fun f vs => PySem.call f vs) :=
  Att.attach_call hn hdf fun w s0 s1 mg mb fa o pm cd doc a vs ns G Y ho hd hcd hmg hobj hints hlen hg => by
    have KX := hY w _ Y
    obtain ⟨fd, hbd, hF⟩ := F w mg fa _ KX G.T.g hmg
    exact law_G KX G.T.g G.T.b G.T.builtins G.T.nolimit hg hobj hints (Nat.le_trans hlen hn2) hr hF hbd fun H hS => hsp _ H a ns hlen hS
end Toy
namespace Toy
open PySem PySem.Spec PyProof.Rows L2
/-! ### how long a shown datum is -/
mutual
def cst : PyData → Nat
  | .none => 5
  | .bool _ => 5
  | .int _ => 1921
  | .str x => (reprText x).length
  | .list xs => csts xs + 4
  | .tuple xs => csts xs + 4
  | .dict _ => 0
def csts : List PyData → Nat
  | [] => 0
  | x :: xs => cst x + 4 + csts xs
end
theorem tupT_len (ts : List Str) : (tupleText ts).length ≤ piled ts + 4 := by
  unfold tupleText
  rw [strLen_append, strLen_append]
  have e1 : ((("(" : String) : Str)).length = 1 := rfl
  have e3 : (((if ts.length == 1 then ",)" else ")" : String) : Str)).length ≤ 2 := by split <;> decide +kernel
  by_cases h : ts = []
  · subst h; decide +kernel
  · have := join_length_add ts h; omega
theorem txtFrom_len : ∀ (ts : List Str) (k : Nat) (acc : Str), (textFrom k acc ts).length ≤ acc.length + piled ts
  | [], k, acc => Nat.le_add_right _ _
  | t :: r, k, acc => by
    have h := txtFrom_len r (k + 1) (acc ++ (if k > 0 then ", " else "" : String) ++ t)
    have e : (acc ++ (if k > 0 then ", " else "" : String) ++ t).length = acc.length + (if k > 0 then 2 else 0) + t.length := by
      rw [strLen_append, strLen_append]
      split <;> rfl
    rw [e] at h
    rw [piled_cons]
    have h2 : (textFrom k acc (t :: r)).length = (textFrom (k + 1) (acc ++ (if k > 0 then ", " else "" : String) ++ t) r).length := rfl
    rw [h2]
    have e2 : (if k > 0 then 2 else 0) ≤ 2 := by split <;> omega
    omega
theorem lstT_len (ts : List Str) : (listText ts).length ≤ piled ts + 4 := by
  unfold listText
  rw [strLen_append]
  have h := txtFrom_len ts 0 "["
  have e1 : ((("[" : String) : Str)).length = 1 := rfl
  have e2 : ((("]" : String) : Str)).length = 1 := rfl
  omega
mutual
theorem shown_le : ∀ d : PyData, d.showable = true → d.hasDict = false → d.shown.length ≤ cst d
  | .none, _, _ => by show (("None" : String) : Str).length ≤ 5; decide +kernel
  | .bool b, _, _ => by cases b <;> (show _ ≤ 5; decide +kernel)
  | .int i, h, _ => PyProof.Rows.int_text_len_1921 (of_decide_eq_true (by simpa [PyData.showable] using h))
  | .str x, _, _ => Nat.le_refl _
  | .list ds, h, g => by
    have h1 := showns_le ds (by simpa [PyData.showable] using h) (by simpa [PyData.hasDict] using g)
    have h2 := lstT_len (PyData.shownAll ds)
    show (listText (PyData.shownAll ds)).length ≤ csts ds + 4
    omega
  | .tuple ds, h, g => by
    have h1 := showns_le ds (by simpa [PyData.showable] using h) (by simpa [PyData.hasDict] using g)
    have h2 := tupT_len (PyData.shownAll ds)
    show (tupleText (PyData.shownAll ds)).length ≤ csts ds + 4
    omega
  | .dict _, _, g => by simp [PyData.hasDict] at g
theorem showns_le : ∀ ds : List PyData, PyData.showableAll ds = true → PyData.hasDictAll ds = false → piled (PyData.shownAll ds) ≤ csts ds
  | [], _, _ => Nat.le_refl _
  | d :: ds, h, g => by
    have h1 := shown_le d (by simp [PyData.showableAll] at h; exact h.1) (by simp [PyData.hasDictAll] at g; exact g.1)
    have h2 := showns_le ds (by simp [PyData.showableAll] at h; exact h.2) (by simp [PyData.hasDictAll] at g; exact g.2)
    show piled (d.shown :: PyData.shownAll ds) ≤ _
    rw [piled_cons]
    show _ ≤ cst d + 4 + csts ds
    omega
end
theorem shown_sz {d : PyData} (h : d.showable = true) (g : d.hasDict = false) (c : cst d ≤ 10000000) : d.shown.length ≤ sizeLine :=
  Nat.le_trans (shown_le d h g) (Nat.le_trans c (by decide))
end Toy
namespace Toy
open PySem PySem.Spec PyProof.Rows L2
/-- a list of ints grown by a part of another one -/
theorem ext_cut {L z : Addr} {ws es : List Int} {lo hi : Option Int} {H : Hp} {R : VK} (hL : H L = some (.lst (ws.map V.int))) (hz : H z = some (.lst (cutV (es.map V.int) lo hi))) (hs : ws.length + es.length ≤ 1000)
    (q : ∀ us : List Int, us.length ≤ es.length → (∀ x ∈ us, x ∈ es) → R .non (upd H L (.lst ((ws ++ us).map V.int)))) : rExtend (.ref L) [.ref z] H R := by
  obtain ⟨us, e, h1, h2⟩ := cut_map es lo hi
  rw [e] at hz
  refine ⟨L, z, _, _, rfl, rfl, hL, hz, small (by rw [List.length_map, List.length_map]; omega), ?_⟩
  have := q us h1 h2
  rw [List.map_append] at this
  exact this
theorem rep_len {n : Nat} : ((List.replicate n true).map V.bl).length = n := by rw [List.length_map, List.length_replicate]
theorem rep_snoc {n : Nat} : (List.replicate n true).map V.bl ++ [V.bl true] = (List.replicate (n + 1) true).map V.bl := by rw [List.replicate_succ', List.map_append] <;> rfl
theorem rep_all (n : Nat) : (List.replicate n true).all id = true := by rw [List.all_eq_true]; intro x hx; rw [List.mem_replicate] at hx; exact hx.2
theorem ixn {n j : Nat} (hj : j < n) : ixN n (j : Int) = some j := by
  unfold ixN
  rw [if_pos (by omega), if_pos (by omega)]
  exact congrArg some (Int.toNat_natCast j)
theorem dec_self (a : V) : decide (a = a) = true := decide_eq_true rfl
end Toy
namespace Toy
open PySem PySem.Spec PyProof.Rows L2
/-- a comprehension within a comprehension -/
theorem relabel_kept {env : Env} : ∀ {names : List (Str × NameKind)} {x : Str}, names.lookup x = some .cell ∨ names.lookup x = some .free →
    (names.map fun (n, k) => if (k == NameKind.free && env.scope.kind == .function && env.kindOf n == some .cell) then (n, NameKind.cell) else (n, k)).lookup x = some .cell ∨
    (names.map fun (n, k) => if (k == NameKind.free && env.scope.kind == .function && env.kindOf n == some .cell) then (n, NameKind.cell) else (n, k)).lookup x = some .free
  | [], _, h => by simp at h
  | (n, k) :: r, x, h => by
    have ih := @relabel_kept env r x
    show List.lookup x ((if (k == NameKind.free && env.scope.kind == .function && env.kindOf n == some .cell) = true then (n, NameKind.cell) else (n, k)) :: _) = _ ∨ List.lookup x ((if (k == NameKind.free && env.scope.kind == .function && env.kindOf n == some .cell) = true then (n, NameKind.cell) else (n, k)) :: _) = _
    cases hx : x == n with
    | true =>
      simp only [List.lookup_cons, hx] at h
      by_cases hc : (k == NameKind.free && env.scope.kind == .function && env.kindOf n == some .cell) = true
      · rw [if_pos hc]; exact .inl (by simp [List.lookup_cons, hx])
      · rw [if_neg hc]; simp only [List.lookup_cons, hx]; exact h
    | false =>
      simp only [List.lookup_cons, hx] at h
      by_cases hc : (k == NameKind.free && env.scope.kind == .function && env.kindOf n == some .cell) = true
      · rw [if_pos hc]; simp only [List.lookup_cons, hx]; exact ih h
      · rw [if_neg hc]; simp only [List.lookup_cons, hx]; exact ih h
theorem blkOk_nest {X : Cx} {s : Shared} {H : Hp} {scope1 scope : Scope} {cl : List (Str × Addr)} {C : Addr} {env : Env} {fp : List Addr} {own : List (Str × Nat)} {N : List Str} (hN : X.N = N) (h : blkC N scope1 scope own = true) :
    BlkOk (X.blk s H scope1 (compEnvC scope1 cl C env) fp).N (X.blk s H scope1 (compEnvC scope1 cl C env) fp).env.scope scope own := by
  subst hN
  obtain ⟨h1, h2, h3, h4, h5⟩ := blkOk_by h
  exact ⟨h1, h2, h3, fun y hy e => relabel_kept (h4 y hy e), h5⟩
end Toy
namespace Toy
open PySem L2
def top (i : Nat) : Stmt := PySem.Challenge.pw_joinedasks_k66_asks_by_any_table.main.body.getD i (.Pass ⟨0, 0, 0, 0⟩)
abbrev s_is_whole : Stmt := top 6
theorem sc_is_whole : FnScope ["thing"] ["thing"] (defScope s_is_whole) := ⟨rfl, rfl, rfl, by decide +kernel, rfl, by decide +kernel, by decide +kernel⟩
abbrev s_is_within : Stmt := top 7
theorem sc_is_within : FnScope ["thing", "least", "most"] ["thing", "least", "most"] (defScope s_is_within) := ⟨rfl, rfl, rfl, by decide +kernel, rfl, by decide +kernel, by decide +kernel⟩
abbrev s_want_within : Stmt := top 8
theorem sc_want_within : FnScope ["thing", "least", "most"] ["thing", "least", "most"] (defScope s_want_within) := ⟨rfl, rfl, rfl, by decide +kernel, rfl, by decide +kernel, by decide +kernel⟩
abbrev s_is_by_table : Stmt := top 12
theorem sc_is_by_table : FnScope ["thing", "states", "state"] ["thing", "states"] (defScope s_is_by_table) := ⟨rfl, rfl, rfl, by decide +kernel, rfl, by decide +kernel, by decide +kernel⟩
abbrev s_are_by_table : Stmt := top 13
theorem sc_are_by_table : FnScope ["thing", "most", "states", "deed"] ["thing", "most"] (defScope s_are_by_table) := ⟨rfl, rfl, rfl, by decide +kernel, rfl, by decide +kernel, by decide +kernel⟩
abbrev s_want_many : Stmt := top 16
theorem sc_want_many : FnScope ["many"] ["many"] (defScope s_want_many) := ⟨rfl, rfl, rfl, by decide +kernel, rfl, by decide +kernel, by decide +kernel⟩
abbrev s_is_tree : Stmt := top 17
theorem sc_is_tree : FnScope ["thing", "many", "waiting", "come", "one"] ["thing", "many"] (defScope s_is_tree) := ⟨rfl, rfl, rfl, by decide +kernel, rfl, by decide +kernel, by decide +kernel⟩
abbrev s_are_numbers : Stmt := top 20
theorem sc_are_numbers : FnScope ["thing", "many", "number"] ["thing", "many"] (defScope s_are_numbers) := ⟨rfl, rfl, rfl, by decide +kernel, rfl, by decide +kernel, by decide +kernel⟩
abbrev s_is_table : Stmt := top 21
theorem sc_is_table : FnScope ["thing", "row"] ["thing"] (defScope s_is_table) := ⟨rfl, rfl, rfl, by decide +kernel, rfl, by decide +kernel, by decide +kernel⟩
abbrev s_want_table : Stmt := top 22
theorem sc_want_table : FnScope ["table"] ["table"] (defScope s_want_table) := ⟨rfl, rfl, rfl, by decide +kernel, rfl, by decide +kernel, by decide +kernel⟩
abbrev s_want_by_table : Stmt := top 23
theorem sc_want_by_table : FnScope ["deeds", "table"] ["deeds", "table"] (defScope s_want_by_table) := ⟨rfl, rfl, rfl, by decide +kernel, rfl, by decide +kernel, by decide +kernel⟩
abbrev s_want_numbers : Stmt := top 24
theorem sc_want_numbers : FnScope ["table", "numbers"] ["table", "numbers"] (defScope s_want_numbers) := ⟨rfl, rfl, rfl, by decide +kernel, rfl, by decide +kernel, by decide +kernel⟩
abbrev s_want_grouped : Stmt := top 25
theorem sc_want_grouped : FnScope ["numbers", "tree"] ["numbers", "tree"] (defScope s_want_grouped) := ⟨rfl, rfl, rfl, by decide +kernel, rfl, by decide +kernel, by decide +kernel⟩
abbrev s_fold : Stmt := top 26
theorem sc_fold : FnScope ["table", "numbers", "tree"] ["table", "numbers", "tree"] (defScope s_fold) := ⟨rfl, rfl, rfl, by decide +kernel, rfl, by decide +kernel, by decide +kernel⟩
abbrev s_share : Stmt := top 27
theorem sc_share : FnScope ["deeds", "table", "numbers", "tree", "state", "behind", "ahead"] ["deeds", "table", "numbers", "tree", "state"] (defScope s_share) := ⟨rfl, rfl, rfl, by decide +kernel, rfl, by decide +kernel, by decide +kernel⟩
abbrev s_folded_by : Stmt := top 28
theorem sc_folded_by : FnScope ["table", "numbers", "tree"] ["table", "numbers", "tree"] (defScope s_folded_by) := ⟨rfl, rfl, rfl, by decide +kernel, rfl, by decide +kernel, by decide +kernel⟩
abbrev s_shared_by : Stmt := top 29
theorem sc_shared_by : FnScope ["deeds", "table", "numbers", "tree", "state"] ["deeds", "table", "numbers", "tree", "state"] (defScope s_shared_by) := ⟨rfl, rfl, rfl, by decide +kernel, rfl, by decide +kernel, by decide +kernel⟩
abbrev s__law_store : Stmt := top 31
theorem sc__law_store : FnScope ["_law_script", "_law_k", "_law_cell"] ["_law_script", "_law_k"] (defScope s__law_store) := ⟨rfl, rfl, rfl, by decide +kernel, rfl, by decide +kernel, by decide +kernel⟩
abbrev s__law_draw : Stmt := top 32
theorem sc__law_draw : FnScope ["_law_store_here", "_law_many", "_law_digit"] ["_law_store_here", "_law_many"] (defScope s__law_draw) := ⟨rfl, rfl, rfl, by decide +kernel, rfl, by decide +kernel, by decide +kernel⟩
abbrev s__law_tree : Stmt := top 33
theorem sc__law_tree : FnScope ["_law_store_here", "_law_first", "_law_many", "_law_left", "_law_one"] ["_law_store_here", "_law_first", "_law_many"] (defScope s__law_tree) := ⟨rfl, rfl, rfl, by decide +kernel, rfl, by decide +kernel, by decide +kernel⟩
abbrev s__law_turned_about : Stmt := top 34
theorem sc__law_turned_about : FnScope ["_law_many", "_law_tree_here", "_law_k"] ["_law_many"] (defScope s__law_turned_about) := ⟨rfl, rfl, rfl, by decide +kernel, rfl, by decide +kernel, by decide +kernel⟩
abbrev s__law_folded : Stmt := top 35
theorem sc__law_folded : FnScope ["_law_table", "_law_numbers", "_law_tree_here"] ["_law_table", "_law_numbers", "_law_tree_here"] (defScope s__law_folded) := ⟨rfl, rfl, rfl, by decide +kernel, rfl, by decide +kernel, by decide +kernel⟩
abbrev s__law_shared : Stmt := top 36
theorem sc__law_shared : FnScope ["_law_deeds", "_law_table", "_law_numbers", "_law_tree_here", "_law_state", "_law_deed", "_law_ahead"] ["_law_deeds", "_law_table", "_law_numbers", "_law_tree_here", "_law_state"] (defScope s__law_shared) := ⟨rfl, rfl, rfl, by decide +kernel, rfl, by decide +kernel, by decide +kernel⟩
abbrev s__law_right : Stmt := top 37
theorem sc__law_right : FnScope ["_law_store_here", "_law_choice", "_law_many", "_law_states", "_law_rows", "_law_deeds", "_law_table", "_law_numbers", "_law_start", "_law_tree_here", "_law_turn", "_law_k", "_law_state", "_law_i", "_law_j"] ["_law_store_here"] (defScope s__law_right) := ⟨rfl, rfl, rfl, by decide +kernel, rfl, by decide +kernel, by decide +kernel⟩
abbrev s_law : Stmt := top 38
theorem sc_law : FnScope ["_law_script", "_law_k"] ["_law_script"] (defScope s_law) := ⟨rfl, rfl, rfl, by decide +kernel, rfl, by decide +kernel, by decide +kernel⟩
structure Bl (K : PySem.W.Frag) (mg : Str → Option Value) : Prop where
  abs_ : mg "abs" = none
  all_ : mg "all" = none
  bool_ : mg "bool" = none
  int_ : mg "int" = none
  isinstance_ : mg "isinstance" = none
  len_ : mg "len" = none
  max_ : mg "max" = none
  min_ : mg "min" = none
  range_ : mg "range" = none
  repr_ : mg "repr" = none
  tuple_ : mg "tuple" = none
  MOST_STATES_ : ∃ t, mg "MOST_STATES" = some (.int 5 t)
  MOST_FAMILY_ : ∃ t, mg "MOST_FAMILY" = some (.int 60 t)
  MOST_DEEDS_ : ∃ t, mg "MOST_DEEDS" = some (.int 40 t)
  MOST_NUMBERS_ : ∃ t, mg "MOST_NUMBERS" = some (.int 40 t)

/-! ### data: a deed -/
structure Dd where
  add : Int
  low : Option Int
  high : Option Int
def oV : Option Int → V
  | none => .non
  | some i => .int i
def Dd.vs (d : Dd) : List V := [.int d.add, oV d.low, oV d.high]
def Dd.at_ (K : PySem.W.Frag) (H : Hp) (a : Addr) (d : Dd) : Prop := SqT K H a d.vs
/-- the ends stand right -/
def Dd.Ok (d : Dd) : Prop := ∀ l h, d.low = some l → d.high = some h → l < h ∨ (l = h ∧ d.add = 0)
def up (o : Option Int) (f : Int) : Int := match o with | none => f | some l => if f > l then f else l
def dn (o : Option Int) (f : Int) : Int := match o with | none => f | some h => if f < h then f else h
def Dd.ap (d : Dd) (v : Int) : Int := dn d.high (up d.low (v + d.add))
def hi (o : Option Int) (f : Int) : Int := match o with | none => f | some h => if f > h then h else f
def mk (d : Dd) (v : Int) : Int := match d.low with | none => hi d.high (v + d.add) | some l => if v + d.add < l then l else hi d.high (v + d.add)
theorem mk_eq {d : Dd} (ok : d.Ok) (v : Int) : mk d v = d.ap v := by
  obtain ⟨add, low, high⟩ := d
  have ok' := ok
  unfold Dd.Ok at ok'
  cases low with
  | none =>
    cases high with
    | none => rfl
    | some h =>
      show (if v + add > h then h else v + add) = if v + add < h then v + add else h
      by_cases c : v + add > h
      · rw [if_pos c, if_neg (by omega)]
      · rw [if_neg c]
        by_cases c2 : v + add < h
        · rw [if_pos c2]
        · rw [if_neg c2]; omega
  | some l =>
    cases high with
    | none =>
      show (if v + add < l then l else v + add) = if v + add > l then v + add else l
      by_cases c : v + add < l
      · rw [if_pos c, if_neg (by omega)]
      · rw [if_neg c]
        by_cases c2 : v + add > l
        · rw [if_pos c2]
        · rw [if_neg c2]; omega
    | some h =>
      have := ok' l h rfl rfl
      show (if v + add < l then l else if v + add > h then h else v + add) = if (if v + add > l then v + add else l) < h then (if v + add > l then v + add else l) else h
      by_cases c : v + add < l
      · rw [if_pos c, if_neg (show ¬ v + add > l by omega)]
        by_cases c2 : l < h
        · rw [if_pos c2]
        · rw [if_neg c2]; omega
      · rw [if_neg c]
        have e : (if v + add > l then v + add else l) = v + add := by
          by_cases c2 : v + add > l
          · rw [if_pos c2]
          · rw [if_neg c2]; omega
        rw [e]
        by_cases c2 : v + add > h
        · rw [if_pos c2, if_neg (by omega)]
        · rw [if_neg c2]
          by_cases c3 : v + add < h
          · rw [if_pos c3]
          · rw [if_neg c3]; omega
/-- all numbers of a deed are within b -/
def Dd.In (b : Int) (d : Dd) : Prop := -b ≤ d.add ∧ d.add ≤ b ∧ (∀ l, d.low = some l → -b ≤ l ∧ l ≤ b) ∧ ∀ l, d.high = some l → -b ≤ l ∧ l ≤ b
theorem in_mk {b add : Int} {low high : Option Int} (h1 : -b ≤ add) (h2 : add ≤ b) (hl : ∀ l, low = some l → -b ≤ l ∧ l ≤ b) (hh : ∀ l, high = some l → -b ≤ l ∧ l ≤ b) : Dd.In b ⟨add, low, high⟩ := ⟨h1, h2, hl, hh⟩
theorem in_none {b : Int} : ∀ l, (none : Option Int) = some l → -b ≤ l ∧ l ≤ b := fun _ h => nomatch h
theorem in_some {b x : Int} (h1 : -b ≤ x) (h2 : x ≤ b) : ∀ l, some x = some l → -b ≤ l ∧ l ≤ b := fun l h => by cases h; exact ⟨h1, h2⟩
theorem ap_in {b c : Int} {d : Dd} {v : Int} (h : d.In b) (h1 : -c ≤ v) (h2 : v ≤ c) (h0 : 0 ≤ c) : -(b + c) ≤ d.ap v ∧ d.ap v ≤ b + c := by
  obtain ⟨a1, a2, hl, hh⟩ := h
  unfold Dd.ap dn up
  cases el : d.low with
  | none =>
    cases eh : d.high with
    | none => dsimp only; omega
    | some k => have := hh k eh; dsimp only; split <;> omega
  | some l =>
    have := hl l el
    cases eh : d.high with
    | none => dsimp only; split <;> omega
    | some k => have := hh k eh; dsimp only; split <;> split <;> omega
theorem fits {i : Int} (h1 : -(10 ^ 40) ≤ i) (h2 : i ≤ 10 ^ 40) : i.natAbs.log2 < 1920 := by
  refine log_lt (by decide) (Nat.lt_of_le_of_lt (m := 10 ^ 40) (by omega) (by decide))
theorem menu7 : ∀ j : Nat, j < 7 → ∃ z : Int, ([.int 3, .int 5, .int 11, .int 17, .int 29, .int 37, .int 41] : List V)[j]? = some (.int z) ∧ 0 < z ∧ z ≤ 41
  | 0, _ => ⟨_, rfl, by decide, by decide⟩
  | 1, _ => ⟨_, rfl, by decide, by decide⟩
  | 2, _ => ⟨_, rfl, by decide, by decide⟩
  | 3, _ => ⟨_, rfl, by decide, by decide⟩
  | 4, _ => ⟨_, rfl, by decide, by decide⟩
  | 5, _ => ⟨_, rfl, by decide, by decide⟩
  | 6, _ => ⟨_, rfl, by decide, by decide⟩
  | n + 7, h => absurd h (by omega)
theorem menu6 : ∀ j : Nat, j < 6 → ∃ z : Int, ([.int 4, .int 12, .int 1000, .int (10 ^ Int.toNat 9), .int (10 ^ Int.toNat 29), .int (10 ^ Int.toNat 29)] : List V)[j]? = some (.int z) ∧ 1 ≤ z ∧ z ≤ 10 ^ 29
  | 0, _ => ⟨_, rfl, by decide, by decide⟩
  | 1, _ => ⟨_, rfl, by decide, by decide⟩
  | 2, _ => ⟨_, rfl, by decide, by decide⟩
  | 3, _ => ⟨_, rfl, by decide, by decide⟩
  | 4, _ => ⟨_, rfl, by decide, by decide⟩
  | 5, _ => ⟨_, rfl, by decide, by decide⟩
  | n + 6, h => absurd h (by omega)
def PotAt (H : Hp) (p : Addr) : Prop := ∃ a b : Int, H p = some (.lst [.int a, .int b]) ∧ 0 ≤ a ∧ 0 ≤ b ∧ b < 2 ^ 40
theorem PotAt.same {H H' : Hp} {p : Addr} (e : Same H H') (h : PotAt H p) : PotAt H' p := by
  obtain ⟨a, b, h1, h2⟩ := h
  exact ⟨a, b, e _ _ h1, h2⟩
def DeedArg (K : PySem.W.Frag) (H : Hp) (a : Addr) (d : Dd) : Prop := TyX K H (.ref a) (.type "tuple") ∧ SqT K H a d.vs ∧ d.Ok
def Dz (H : Hp) (a : Addr) (d : Dd) : Prop := H a = some (.tup d.vs) ∧ d.In (10 ^ 29 + 3) ∧ d.Ok
theorem Dz.arg {K : PySem.W.Frag} {H : Hp} {a : Addr} {d : Dd} (h : Dz H a d) : DeedArg K H a d := ⟨.base (.tup h.1), SqT.of h.1, h.2.2⟩
theorem Dz.same {H H' : Hp} {a : Addr} {d : Dd} (e : Same H H') (h : Dz H a d) : Dz H' a d := ⟨e _ _ h.1, h.2⟩
def look : Dd := ⟨0, none, none⟩
theorem look_ok : look.Ok := fun _ _ h => nomatch h
theorem look_in {b : Int} (h : 0 ≤ b) : look.In b := in_mk (by omega) (by omega) in_none in_none
theorem pot_ne {H : Hp} {p a : Addr} (h : PotAt H p) (n : H a = none) : a ≠ p := fun z => by obtain ⟨_, _, h1, _⟩ := h; rw [← z, n] at h1; cases h1
/-! ### two deeds as one -/
def wholeD (add : Int) (low high : Option Int) : Dd := if low ≠ none ∧ low = high then ⟨0, low, high⟩ else ⟨add, low, high⟩
theorem wholeD_low {add : Int} {low high : Option Int} : (wholeD add low high).low = low := by unfold wholeD; split <;> rfl
theorem wholeD_high {add : Int} {low high : Option Int} : (wholeD add low high).high = high := by unfold wholeD; split <;> rfl
theorem wholeD_add {add : Int} {low high : Option Int} : (wholeD add low high).add = if low ≠ none ∧ low = high then 0 else add := by unfold wholeD; split <;> rfl
def endBeh (b : Dd) (o p : Option Int) : Option Int := match o with | none => p | some l => some (b.ap l)
def beh (a b : Dd) : Dd := wholeD (a.add + b.add) (endBeh b a.low b.low) (endBeh b a.high b.high)
theorem up_mono {o : Option Int} {x y : Int} (h : x ≤ y) : up o x ≤ up o y := by
  cases o with
  | none => exact h
  | some l =>
    show (if x > l then x else l) ≤ (if y > l then y else l)
    split <;> split <;> omega
theorem dn_mono {o : Option Int} {x y : Int} (h : x ≤ y) : dn o x ≤ dn o y := by
  cases o with
  | none => exact h
  | some l =>
    show (if x < l then x else l) ≤ (if y < l then y else l)
    split <;> split <;> omega
theorem ap_mono (d : Dd) {x y : Int} (h : x ≤ y) : d.ap x ≤ d.ap y := dn_mono (up_mono (by omega))
/-- what is made, by the four ways -/
theorem ap_nn (d : Dd) (v : Int) (h1 : d.low = none) (h2 : d.high = none) : d.ap v = v + d.add := by unfold Dd.ap; rw [h1, h2] <;> rfl
theorem ap_sn (d : Dd) (v l : Int) (h1 : d.low = some l) (h2 : d.high = none) : d.ap v = if v + d.add > l then v + d.add else l := by unfold Dd.ap; rw [h1, h2] <;> rfl
theorem ap_ns (d : Dd) (v h : Int) (h1 : d.low = none) (h2 : d.high = some h) : d.ap v = if v + d.add < h then v + d.add else h := by unfold Dd.ap; rw [h1, h2] <;> rfl
theorem ap_ss (d : Dd) (v l h : Int) (h1 : d.low = some l) (h2 : d.high = some h) : d.ap v = if (if v + d.add > l then v + d.add else l) < h then (if v + d.add > l then v + d.add else l) else h := by unfold Dd.ap; rw [h1, h2] <;> rfl
/-- facts for omega -/
theorem ap_cases (d : Dd) (ok : d.Ok) (v : Int) :
    (∀ l, d.low = some l → l ≤ d.ap v ∧ (v + d.add ≤ l → d.ap v = l)) ∧ (∀ h, d.high = some h → d.ap v ≤ h ∧ (h ≤ v + d.add → d.ap v = h)) ∧
    ((d.low = none ∨ ∃ l, d.low = some l ∧ l ≤ v + d.add) → (d.high = none ∨ ∃ h, d.high = some h ∧ v + d.add ≤ h) → d.ap v = v + d.add) := by
  cases e1 : d.low with
  | none =>
    cases e2 : d.high with
    | none =>
      rw [ap_nn d v e1 e2]
      exact ⟨fun _ h => (nomatch h), fun _ h => (nomatch h), fun _ _ => rfl⟩
    | some h =>
      rw [ap_ns d v h e1 e2]
      refine ⟨fun _ h => (nomatch h), fun k hk => ?_, fun _ h2 => ?_⟩
      · cases hk; split <;> omega
      · rcases h2 with h2 | ⟨k, hk, h2⟩
        · cases h2
        · cases hk; split <;> omega
  | some l =>
    cases e2 : d.high with
    | none =>
      rw [ap_sn d v l e1 e2]
      refine ⟨fun k hk => ?_, fun _ h => (nomatch h), fun h1 _ => ?_⟩
      · cases hk; split <;> omega
      · rcases h1 with h1 | ⟨k, hk, h1⟩
        · cases h1
        · cases hk; split <;> omega
    | some h =>
      have o := ok l h e1 e2
      rw [ap_ss d v l h e1 e2]
      refine ⟨fun k hk => ?_, fun k hk => ?_, fun h1 h2 => ?_⟩
      · cases hk
        by_cases c : v + d.add > l
        · rw [if_pos c]; split <;> omega
        · rw [if_neg c]; split <;> omega
      · cases hk
        by_cases c : v + d.add > l
        · rw [if_pos c]; split <;> omega
        · rw [if_neg c]; split <;> omega
      · rcases h1 with h1 | ⟨k, hk, h1⟩
        · cases h1
        rcases h2 with h2 | ⟨k', hk', h2⟩
        · cases h2
        cases hk; cases hk'
        by_cases c : v + d.add > l
        · rw [if_pos c]; split <;> omega
        · rw [if_neg c]; split <;> omega
theorem beh_ok {a b : Dd} (ha : a.Ok) (hb : b.Ok) : (beh a b).Ok := by
  intro l h h1 h2
  unfold beh at h1 h2 ⊢
  rw [wholeD_low] at h1
  rw [wholeD_high] at h2
  rw [wholeD_add]
  have key : l ≤ h := by
    unfold endBeh at h1 h2
    cases e1 : a.low with
    | none =>
      rw [e1] at h1
      cases e2 : a.high with
      | none =>
        rw [e2] at h2
        have := hb l h h1 h2
        omega
      | some k =>
        rw [e2] at h2
        cases h2
        exact ((ap_cases b hb k).1 l h1).1
    | some j =>
      rw [e1] at h1
      cases h1
      cases e2 : a.high with
      | none =>
        rw [e2] at h2
        exact ((ap_cases b hb j).2.1 h h2).1
      | some k =>
        rw [e2] at h2
        cases h2
        have := ha j k e1 e2
        exact ap_mono b (by omega)
  by_cases c : l = h
  · right
    refine ⟨c, if_pos ⟨by rw [h1]; exact Option.some_ne_none l, by rw [h1, h2, c]⟩⟩
  · left; omega
/-- the ends of a deed -/
theorem ap_low {d : Dd} (ok : d.Ok) {l v : Int} (h : d.low = some l) (hv : v + d.add ≤ l) : d.ap v = l := ((ap_cases d ok v).1 l h).2 hv
theorem ap_high {d : Dd} (ok : d.Ok) {l v : Int} (h : d.high = some l) (hv : l ≤ v + d.add) : d.ap v = l := ((ap_cases d ok v).2.1 l h).2 hv
theorem whole_ap {add : Int} {low high : Option Int} {v w : Int} (hl : ∀ l, low = some l → l ≤ w) (hh : ∀ h, high = some h → w ≤ h)
    (h1 : (∀ l, low = some l → v + add ≤ l → w = l)) (h2 : (∀ h, high = some h → h ≤ v + add → w = h))
    (h3 : (low = none ∨ ∃ l, low = some l ∧ l ≤ v + add) → (high = none ∨ ∃ h, high = some h ∧ v + add ≤ h) → w = v + add) : (wholeD add low high).ap v = w := by
  cases e1 : low with
  | none =>
    have e3 : wholeD add none high = ⟨add, none, high⟩ := by unfold wholeD; rw [if_neg (fun z => z.1 rfl)]
    rw [e3]
    cases e2 : high with
    | none => rw [ap_nn _ _ rfl rfl]; exact (h3 (.inl e1) (.inl e2)).symm
    | some h =>
      rw [ap_ns _ _ h rfl rfl]
      show (if v + add < h then v + add else h) = w
      have a2 := h2 h e2
      have a3 := h3 (.inl e1)
      split
      · exact (a3 (.inr ⟨h, e2, by omega⟩)).symm
      · exact (a2 (by omega)).symm
  | some l =>
    have b1 := hl l e1
    cases e2 : high with
    | none =>
      have e3 : wholeD add (some l) none = ⟨add, some l, none⟩ := by unfold wholeD; rw [if_neg (fun z => nomatch z.2)]
      rw [e3, ap_sn _ _ l rfl rfl]
      show (if v + add > l then v + add else l) = w
      have a1 := h1 l e1
      split
      · exact (h3 (.inr ⟨l, e1, by omega⟩) (.inl e2)).symm
      · exact (a1 (by omega)).symm
    | some h =>
      have b2 := hh h e2
      by_cases c : l = h
      · subst c
        have e3 : wholeD add (some l) (some l) = ⟨0, some l, some l⟩ := by unfold wholeD; rw [if_pos ⟨Option.some_ne_none l, rfl⟩]
        rw [e3, ap_ss _ _ l l rfl rfl]
        split <;> omega
      · have e3 : wholeD add (some l) (some h) = ⟨add, some l, some h⟩ := by unfold wholeD; rw [if_neg (fun z => c (Option.some.inj z.2))]
        rw [e3, ap_ss _ _ l h rfl rfl]
        show (if (if v + add > l then v + add else l) < h then (if v + add > l then v + add else l) else h) = w
        have a1 := h1 l e1
        have a2 := h2 h e2
        by_cases c1 : v + add > l
        · rw [if_pos c1]
          split
          · exact (h3 (.inr ⟨l, e1, by omega⟩) (.inr ⟨h, e2, by omega⟩)).symm
          · exact (a2 (by omega)).symm
        · rw [if_neg c1]
          have := a1 (by omega)
          split <;> omega
theorem beh_ap {a b : Dd} (ha : a.Ok) (hb : b.Ok) (v : Int) : (beh a b).ap v = b.ap (a.ap v) := by
  obtain ⟨A1, A2, A3⟩ := ap_cases a ha v
  obtain ⟨B1, B2, B3⟩ := ap_cases b hb (a.ap v)
  have P3 : ∀ l, endBeh b a.low b.low = some l → v + (a.add + b.add) ≤ l → b.ap (a.ap v) = l := by
    intro l hl hv
    unfold endBeh at hl
    cases e : a.low with
    | none =>
      rw [e] at hl
      refine (B1 l hl).2 ?_
      cases e2 : a.high with
      | none => rw [A3 (.inl e) (.inl e2)]; omega
      | some k =>
        by_cases c : v + a.add ≤ k
        · rw [A3 (.inl e) (.inr ⟨k, e2, c⟩)]; omega
        · rw [(A2 k e2).2 (by omega)]; omega
    | some j =>
      rw [e] at hl
      cases hl
      -- v + a.add + b.add ≤ b.ap j
      by_cases c : v + a.add ≤ j
      · rw [(A1 j e).2 c]
      · have m : b.ap j ≤ b.ap (a.ap v) := ap_mono b (A1 j e).1
        have n : b.ap (a.ap v) ≤ b.ap (v + a.add) := by
          refine ap_mono b ?_
          cases e2 : a.high with
          | none => rw [A3 (.inr ⟨j, e, by omega⟩) (.inl e2)]; omega
          | some k =>
            by_cases c : v + a.add ≤ k
            · rw [A3 (.inr ⟨j, e, by omega⟩) (.inr ⟨k, e2, c⟩)]; omega
            · rw [(A2 k e2).2 (by omega)]; omega
        -- b at v + a.add is at most max of its sum and its low end
        obtain ⟨C1, C2, C3⟩ := ap_cases b hb (v + a.add)
        obtain ⟨D1, D2, D3⟩ := ap_cases b hb j
        cases f1 : b.low with
        | none =>
          cases f2 : b.high with
          | none => have := C3 (.inl f1) (.inl f2); have := D3 (.inl f1) (.inl f2); omega
          | some k =>
            have := C2 k f2; have := D2 k f2
            by_cases c3 : v + a.add + b.add ≤ k
            · have := C3 (.inl f1) (.inr ⟨k, f2, c3⟩); have := D3 (.inl f1) (.inr ⟨k, f2, by omega⟩); omega
            · omega
        | some i =>
          have := C1 i f1; have := D1 i f1
          cases f2 : b.high with
          | none =>
            by_cases c3 : i ≤ v + a.add + b.add
            · have := C3 (.inr ⟨i, f1, c3⟩) (.inl f2)
              by_cases c4 : i ≤ j + b.add
              · have := D3 (.inr ⟨i, f1, c4⟩) (.inl f2); omega
              · omega
            · omega
          | some k =>
            have := C2 k f2; have := D2 k f2
            by_cases c3 : i ≤ v + a.add + b.add
            · by_cases c5 : v + a.add + b.add ≤ k
              · have := C3 (.inr ⟨i, f1, c3⟩) (.inr ⟨k, f2, c5⟩)
                by_cases c4 : i ≤ j + b.add
                · have := D3 (.inr ⟨i, f1, c4⟩) (.inr ⟨k, f2, by omega⟩); omega
                · omega
              · omega
            · omega
  have P4 : ∀ h, endBeh b a.high b.high = some h → h ≤ v + (a.add + b.add) → b.ap (a.ap v) = h := by
    intro h hh hv
    unfold endBeh at hh
    cases e : a.high with
    | none =>
      rw [e] at hh
      refine (B2 h hh).2 ?_
      cases e2 : a.low with
      | none => rw [A3 (.inl e2) (.inl e)]; omega
      | some k =>
        by_cases c : k ≤ v + a.add
        · rw [A3 (.inr ⟨k, e2, c⟩) (.inl e)]; omega
        · rw [(A1 k e2).2 (by omega)]; omega
    | some j =>
      rw [e] at hh
      cases hh
      by_cases c : j ≤ v + a.add
      · rw [(A2 j e).2 c]
      · have m : b.ap (a.ap v) ≤ b.ap j := ap_mono b (A2 j e).1
        have n : b.ap (v + a.add) ≤ b.ap (a.ap v) := by
          refine ap_mono b ?_
          cases e2 : a.low with
          | none => rw [A3 (.inl e2) (.inr ⟨j, e, by omega⟩)]; omega
          | some k =>
            by_cases c : k ≤ v + a.add
            · rw [A3 (.inr ⟨k, e2, c⟩) (.inr ⟨j, e, by omega⟩)]; omega
            · rw [(A1 k e2).2 (by omega)]; omega
        obtain ⟨C1, C2, C3⟩ := ap_cases b hb (v + a.add)
        obtain ⟨D1, D2, D3⟩ := ap_cases b hb j
        cases f1 : b.high with
        | none =>
          cases f2 : b.low with
          | none => have := C3 (.inl f2) (.inl f1); have := D3 (.inl f2) (.inl f1); omega
          | some k =>
            have := C1 k f2; have := D1 k f2
            by_cases c3 : k ≤ v + a.add + b.add
            · have := C3 (.inr ⟨k, f2, c3⟩) (.inl f1); have := D3 (.inr ⟨k, f2, by omega⟩) (.inl f1); omega
            · omega
        | some i =>
          have := C2 i f1; have := D2 i f1
          cases f2 : b.low with
          | none =>
            by_cases c3 : v + a.add + b.add ≤ i
            · have := C3 (.inl f2) (.inr ⟨i, f1, c3⟩)
              by_cases c4 : j + b.add ≤ i
              · have := D3 (.inl f2) (.inr ⟨i, f1, c4⟩); omega
              · omega
            · omega
          | some k =>
            have := C1 k f2; have := D1 k f2
            by_cases c3 : v + a.add + b.add ≤ i
            · by_cases c5 : k ≤ v + a.add + b.add
              · have := C3 (.inr ⟨k, f2, c5⟩) (.inr ⟨i, f1, c3⟩)
                by_cases c4 : j + b.add ≤ i
                · have := D3 (.inr ⟨k, f2, by omega⟩) (.inr ⟨i, f1, c4⟩); omega
                · omega
              · omega
            · omega
  unfold beh
  refine whole_ap (fun l hl => ?_) (fun h hh => ?_) P3 P4 (fun h1 h2 => ?_)
  · unfold endBeh at hl
    cases e : a.low with
    | none => rw [e] at hl; exact (B1 l hl).1
    | some j => rw [e] at hl; cases hl; exact ap_mono b (A1 j e).1
  · unfold endBeh at hh
    cases e : a.high with
    | none => rw [e] at hh; exact (B2 h hh).1
    | some j => rw [e] at hh; cases hh; exact ap_mono b (A2 j e).1
  · -- between the ends both add
    by_cases s1 : ∃ l, endBeh b a.low b.low = some l ∧ v + (a.add + b.add) ≤ l
    · obtain ⟨l, s1, s2⟩ := s1
      rw [P3 l s1 s2]
      rcases h1 with h1 | ⟨l', h1, h4⟩
      · rw [s1] at h1; cases h1
      · rw [s1] at h1; cases h1; omega
    by_cases s2 : ∃ l, endBeh b a.high b.high = some l ∧ l ≤ v + (a.add + b.add)
    · obtain ⟨l, s2, s3⟩ := s2
      rw [P4 l s2 s3]
      rcases h2 with h2 | ⟨l', h2, h4⟩
      · rw [s2] at h2; cases h2
      · rw [s2] at h2; cases h2; omega
    have h1s : ∀ l, endBeh b a.low b.low = some l → l < v + (a.add + b.add) := fun l hl => Int.not_le.mp fun z => s1 ⟨l, hl, z⟩
    have h2s : ∀ l, endBeh b a.high b.high = some l → v + (a.add + b.add) < l := fun l hl => Int.not_le.mp fun z => s2 ⟨l, hl, z⟩
    have a1 : a.low = none ∨ ∃ l, a.low = some l ∧ l ≤ v + a.add := by
      cases e : a.low with
      | none => exact .inl rfl
      | some j =>
        right
        refine ⟨j, rfl, ?_⟩
        rcases h1 with h1 | ⟨l, h1, h4⟩
        · unfold endBeh at h1; rw [e] at h1; cases h1
        have st := h1s l h1
        unfold endBeh at h1; rw [e] at h1; cases h1
        by_cases c : j ≤ v + a.add
        · exact c
        obtain ⟨D1, D2, D3⟩ := ap_cases b hb j
        exfalso
        cases f2 : b.high with
        | none =>
          cases f1 : b.low with
          | none => have := D3 (.inl f1) (.inl f2); omega
          | some i => have := D1 i f1; by_cases c4 : i ≤ j + b.add; (have := D3 (.inr ⟨i, f1, c4⟩) (.inl f2); omega); omega
        | some k =>
          have := D2 k f2
          by_cases c5 : j + b.add ≤ k
          · cases f1 : b.low with
            | none => have := D3 (.inl f1) (.inr ⟨k, f2, c5⟩); omega
            | some i => have := D1 i f1; by_cases c4 : i ≤ j + b.add; (have := D3 (.inr ⟨i, f1, c4⟩) (.inr ⟨k, f2, c5⟩); omega); omega
          · have e5 : b.ap j = k := this.2 (by omega)
            -- the upper end is met: then high of both is k
            rcases h2 with h2 | ⟨h, h2, h6⟩
            · unfold endBeh at h2; cases e7 : a.high with
              | none => rw [e7] at h2; rw [f2] at h2; cases h2
              | some m => rw [e7] at h2; cases h2
            · unfold endBeh at h2; cases e7 : a.high with
              | none => rw [e7] at h2; rw [f2] at h2; cases h2; omega
              | some m =>
                rw [e7] at h2; cases h2
                have o := ha j m e e7
                have q1 := ap_mono b (show j ≤ m by omega)
                have q2 := ((ap_cases b hb m).2.1 k f2).1
                omega
    have a2 : a.high = none ∨ ∃ l, a.high = some l ∧ v + a.add ≤ l := by
      cases e : a.high with
      | none => exact .inl rfl
      | some j =>
        right
        refine ⟨j, rfl, ?_⟩
        rcases h2 with h2 | ⟨l, h2, h4⟩
        · unfold endBeh at h2; rw [e] at h2; cases h2
        have st := h2s l h2
        unfold endBeh at h2; rw [e] at h2; cases h2
        by_cases c : v + a.add ≤ j
        · exact c
        obtain ⟨D1, D2, D3⟩ := ap_cases b hb j
        exfalso
        cases f2 : b.low with
        | none =>
          cases f1 : b.high with
          | none => have := D3 (.inl f2) (.inl f1); omega
          | some i => have := D2 i f1; by_cases c4 : j + b.add ≤ i; (have := D3 (.inl f2) (.inr ⟨i, f1, c4⟩); omega); omega
        | some k =>
          have := D1 k f2
          by_cases c5 : k ≤ j + b.add
          · cases f1 : b.high with
            | none => have := D3 (.inr ⟨k, f2, c5⟩) (.inl f1); omega
            | some i => have := D2 i f1; by_cases c4 : j + b.add ≤ i; (have := D3 (.inr ⟨k, f2, c5⟩) (.inr ⟨i, f1, c4⟩); omega); omega
          · have e5 : b.ap j = k := this.2 (by omega)
            rcases h1 with h1 | ⟨h, h1, h6⟩
            · unfold endBeh at h1; cases e7 : a.low with
              | none => rw [e7] at h1; rw [f2] at h1; cases h1
              | some m => rw [e7] at h1; cases h1
            · unfold endBeh at h1; cases e7 : a.low with
              | none => rw [e7] at h1; rw [f2] at h1; cases h1; omega
              | some m =>
                rw [e7] at h1; cases h1
                have o := ha m j e7 e
                have q1 := ap_mono b (show m ≤ j by omega)
                have q2 := ((ap_cases b hb m).1 k f2).1
                omega
    have ea := A3 a1 a2
    rw [ea] at B1 B2 B3 ⊢
    have b1 : b.low = none ∨ ∃ l, b.low = some l ∧ l ≤ v + a.add + b.add := by
      cases f : b.low with
      | none => exact .inl rfl
      | some i =>
        refine .inr ⟨i, rfl, ?_⟩
        rcases h1 with h1 | ⟨l, h1, h4⟩
        · unfold endBeh at h1; cases e7 : a.low with
          | none => rw [e7] at h1; rw [f] at h1; cases h1
          | some m => rw [e7] at h1; cases h1
        · unfold endBeh at h1; cases e7 : a.low with
          | none => rw [e7] at h1; rw [f] at h1; cases h1; omega
          | some m => rw [e7] at h1; cases h1; have := ((ap_cases b hb m).1 i f).1; omega
    have b2 : b.high = none ∨ ∃ l, b.high = some l ∧ v + a.add + b.add ≤ l := by
      cases f : b.high with
      | none => exact .inl rfl
      | some i =>
        refine .inr ⟨i, rfl, ?_⟩
        rcases h2 with h2 | ⟨l, h2, h4⟩
        · unfold endBeh at h2; cases e7 : a.high with
          | none => rw [e7] at h2; rw [f] at h2; cases h2
          | some m => rw [e7] at h2; cases h2
        · unfold endBeh at h2; cases e7 : a.high with
          | none => rw [e7] at h2; rw [f] at h2; cases h2; omega
          | some m => rw [e7] at h2; cases h2; have := ((ap_cases b hb m).2.1 i f).1; omega
    rw [B3 b1 b2]; omega
theorem beh_in {a b : Dd} {x y : Int} (ha : a.In x) (hb : b.In y) (h0 : 0 ≤ x) (h1 : 0 ≤ y) : (beh a b).In (y + x) := by
  obtain ⟨a1, a2, a3, a4⟩ := ha
  have hb' := hb
  obtain ⟨b1, b2, b3, b4⟩ := hb
  refine ⟨?_, ?_, fun l hl => ?_, fun l hl => ?_⟩
  · unfold beh; rw [wholeD_add]; split <;> omega
  · unfold beh; rw [wholeD_add]; split <;> omega
  · unfold beh at hl; rw [wholeD_low] at hl; unfold endBeh at hl
    cases e : a.low with
    | none => rw [e] at hl; have := b3 l hl; omega
    | some j => rw [e] at hl; cases hl; exact ap_in hb' (a3 j e).1 (a3 j e).2 h0
  · unfold beh at hl; rw [wholeD_high] at hl; unfold endBeh at hl
    cases e : a.high with
    | none => rw [e] at hl; have := b4 l hl; omega
    | some j => rw [e] at hl; cases hl; exact ap_in hb' (a4 j e).1 (a4 j e).2 h0
/-- far out a deed shows its ends -/
theorem far_low {d : Dd} {b F : Int} (ok : d.Ok) (i : d.In b) (hF : 3 * b + 2 ≤ F) (h0 : 0 ≤ b) : (if d.ap (-F - 1) = d.ap (-F) then some (d.ap (-F)) else none) = d.low := by
  obtain ⟨i1, i2, i3, i4⟩ := i
  cases e : d.low with
  | some l =>
    have := i3 l e
    rw [ap_low ok e (show -F - 1 + d.add ≤ l by omega), ap_low ok e (show -F + d.add ≤ l by omega), if_pos rfl]
  | none =>
    have k : ∀ v : Int, v ≤ -F → d.ap v = v + d.add := fun v hv => by
      refine (ap_cases d ok v).2.2 (.inl e) ?_
      cases f : d.high with
      | none => exact .inl rfl
      | some h => have := i4 h f; exact .inr ⟨h, rfl, by omega⟩
    rw [k _ (by omega), k _ (by omega), if_neg (by omega)]
theorem far_high {d : Dd} {b F : Int} (ok : d.Ok) (i : d.In b) (hF : 3 * b + 2 ≤ F) (h0 : 0 ≤ b) : (if d.ap F = d.ap (F + 1) then some (d.ap F) else none) = d.high := by
  obtain ⟨i1, i2, i3, i4⟩ := i
  cases e : d.high with
  | some l =>
    have := i4 l e
    rw [ap_high ok e (show l ≤ F + 1 + d.add by omega), ap_high ok e (show l ≤ F + d.add by omega), if_pos rfl]
  | none =>
    have k : ∀ v : Int, F ≤ v → d.ap v = v + d.add := fun v hv => by
      refine (ap_cases d ok v).2.2 ?_ (.inl e)
      cases f : d.low with
      | none => exact .inl rfl
      | some h => have := i3 h f; exact .inr ⟨h, rfl, by omega⟩
    rw [k _ (by omega), k _ (by omega), if_neg (by omega)]
theorem bound_of (d : Dd) : ∃ b, 0 ≤ b ∧ d.In b := by
  obtain ⟨a, l, h⟩ := d
  refine ⟨a.natAbs + (l.getD 0).natAbs + (h.getD 0).natAbs, by omega, in_mk (by omega) (by omega) (fun x hx => ?_) fun x hx => ?_⟩
  · cases hx; simp only [Option.getD_some]; omega
  · cases hx; simp only [Option.getD_some]; omega
theorem In.le {d : Dd} {a b : Int} (h : d.In a) (e : a ≤ b) : d.In b := ⟨by have := h.1; omega, by have := h.2.1; omega, fun l hl => by have := h.2.2.1 l hl; omega, fun l hl => by have := h.2.2.2 l hl; omega⟩
/-- there is just one deed that makes the same of all -/
theorem ap_ext {d e : Dd} (hd : d.Ok) (he : e.Ok) (h : ∀ v, d.ap v = e.ap v) : d = e := by
  obtain ⟨b, b0, hb⟩ := bound_of d
  obtain ⟨c, c0, hc⟩ := bound_of e
  have l1 := far_low (F := 3 * (b + c) + 2) hd (In.le hb (show b ≤ b + c by omega)) (by omega) (by omega)
  have l2 := far_low (F := 3 * (b + c) + 2) he (In.le hc (show c ≤ b + c by omega)) (by omega) (by omega)
  have h1 := far_high (F := 3 * (b + c) + 2) hd (In.le hb (show b ≤ b + c by omega)) (by omega) (by omega)
  have h2 := far_high (F := 3 * (b + c) + 2) he (In.le hc (show c ≤ b + c by omega)) (by omega) (by omega)
  rw [h, h, l2] at l1
  rw [h, h, h2] at h1
  have ea : d.add = e.add := by
    cases e1 : d.low with
    | none =>
      cases e2 : d.high with
      | none =>
        have := h 0
        rw [ap_nn d 0 e1 e2, ap_nn e 0 (l1.trans e1) (h1.trans e2)] at this
        omega
      | some k =>
        have := h (k - 1 - b - c)
        have q1 := hb.1; have q2 := hb.2.1; have q3 := hc.1; have q4 := hc.2.1
        rw [ap_ns d _ k e1 e2, ap_ns e _ k (l1.trans e1) (h1.trans e2), if_pos (by omega), if_pos (by omega)] at this
        omega
    | some l =>
      cases e2 : d.high with
      | none =>
        have := h (l + 1 + b + c)
        have q1 := hb.1; have q2 := hb.2.1; have q3 := hc.1; have q4 := hc.2.1
        rw [ap_sn d _ l e1 e2, ap_sn e _ l (l1.trans e1) (h1.trans e2), if_pos (by omega), if_pos (by omega)] at this
        omega
      | some k =>
        have o1 := hd l k e1 e2
        have o2 := he l k (l1.trans e1) (h1.trans e2)
        by_cases c1 : l = k
        · omega
        · have g1 := h (l - d.add)
          have g2 := h (l - d.add + 1)
          obtain ⟨C1, C2, C3⟩ := ap_cases e he (l - d.add)
          obtain ⟨D1, D2, D3⟩ := ap_cases e he (l - d.add + 1)
          rw [ap_low hd e1 (by omega)] at g1
          rw [(ap_cases d hd (l - d.add + 1)).2.2 (.inr ⟨l, e1, by omega⟩) (.inr ⟨k, e2, by omega⟩)] at g2
          have := C1 l (l1.trans e1); have := C2 k (h1.trans e2); have := D1 l (l1.trans e1); have := D2 k (h1.trans e2)
          by_cases c2 : l ≤ l - d.add + e.add
          · by_cases c3 : l - d.add + e.add ≤ k
            · have := C3 (.inr ⟨l, l1.trans e1, c2⟩) (.inr ⟨k, h1.trans e2, c3⟩); omega
            · omega
          · by_cases c3 : l ≤ l - d.add + 1 + e.add
            · have := D3 (.inr ⟨l, l1.trans e1, c3⟩) (.inr ⟨k, h1.trans e2, by omega⟩); omega
            · omega
  obtain ⟨a1, a2, a3⟩ := d
  obtain ⟨b1, b2, b3⟩ := e
  cases ea; cases l1; cases h1
  rfl
theorem beh_assoc {a b c : Dd} (ha : a.Ok) (hb : b.Ok) (hc : c.Ok) : beh (beh a b) c = beh a (beh b c) :=
  ap_ext (beh_ok (beh_ok ha hb) hc) (beh_ok ha (beh_ok hb hc)) fun v => by rw [beh_ap (beh_ok ha hb) hc, beh_ap ha hb, beh_ap ha (beh_ok hb hc), beh_ap hb hc]
theorem look_ap (v : Int) : look.ap v = v := by show v + 0 = v; omega
theorem beh_look {a : Dd} (ha : a.Ok) : beh a look = a := ap_ext (beh_ok ha look_ok) ha fun v => by rw [beh_ap ha look_ok, look_ap]
theorem look_beh {a : Dd} (ha : a.Ok) : beh look a = a := ap_ext (beh_ok look_ok ha) ha fun v => by rw [beh_ap look_ok ha, look_ap]
/-! ### a deed as data -/
def po : Option Int → PyData
  | none => .none
  | some i => .int i
def pd (d : Dd) : PyData := .tuple [.int d.add, po d.low, po d.high]
theorem po_dp {K : PySem.W.Frag} {H : Hp} (o : Option Int) : Dp K H (oV o) (po o) := by
  cases o with
  | none => exact .non
  | some i => exact .int i
theorem pd_dp {K : PySem.W.Frag} {H : Hp} {a : Addr} {d : Dd} (h : SqT K H a d.vs) : Dp K H (.ref a) (pd d) := .tup h (.cons (.int _) (.cons (po_dp _) (.cons (po_dp _) .nil)))
theorem pd_sh (d : Dd) : SeqAt.shaped (pd d) = true := by
  obtain ⟨a, l, h⟩ := d
  cases l <;> cases h <;> rfl
theorem pd_refl (d : Dd) : PyData.eqv (pd d) (pd d) = true := SeqAt.eqv_refl _ (SeqAt.canLay_of_shaped (pd_sh d))
/-- a new tuple with a deed -/
def NewD (H : Hp) (Q : VK) (d : Dd) : Prop := ∀ (a : Addr) (H' : Hp), Same H H' → H a = none → H' a = some (.tup d.vs) → Q (.ref a) H'
abbrev Fx : Int := 10 ^ Int.toNat 64 * 10 ^ Int.toNat 26
theorem Fx_eq : Fx = 10 ^ 90 := by decide
theorem take_snoc {α : Type} {l : List α} {i : Nat} {x : α} (h : l[i]? = some x) : l.take (i + 1) = l.take i ++ [x] := by rw [List.take_succ, h] <;> rfl
/-- a deed's tuple that was made here -/
def Da (H : Hp) (a : Addr) (d : Dd) : Prop := H a = some (.tup d.vs) ∧ d.In (10 ^ 80) ∧ d.Ok
theorem Da.arg {K : PySem.W.Frag} {H : Hp} {a : Addr} {d : Dd} (h : Da H a d) : DeedArg K H a d := ⟨.base (.tup h.1), SqT.of h.1, h.2.2⟩
theorem Da.same {H H' : Hp} {a : Addr} {d : Dd} (e : Same H H') (h : Da H a d) : Da H' a d := ⟨e _ _ h.1, h.2⟩
theorem Da.sq {K : PySem.W.Frag} {H : Hp} {a : Addr} {d : Dd} (h : Da H a d) : SqT K H a d.vs := SqT.of h.1
theorem Da.dp {K : PySem.W.Frag} {H : Hp} {a : Addr} {d : Dd} (h : Da H a d) : Dp K H (.ref a) (pd d) := pd_dp h.sq
theorem ne_pd {d : Dd} : (!PyData.eqv (pd d) (pd d)) = false := by rw [pd_refl] <;> rfl
theorem addT {x : Int} {k : Bool} {p : Prop} [Decidable p] (h : k = true ↔ ¬ p) : x * (if k = true then 1 else 0) = if p then 0 else x := by
  by_cases c : p
  · rw [if_pos c, if_neg (fun z => h.mp z c)]; exact Int.mul_zero _
  · rw [if_neg c, if_pos (h.mpr c)]; exact Int.mul_one _
/-! ### shown data: one look -/
structure Sh (d : PyData) (n c : Nat) : Prop where
  s : d.showable = true
  dep : d.depth ≤ n
  c : cst d ≤ c
theorem shAll {α : Type} {f : α → PyData} {n c : Nat} : ∀ {xs : List α}, (∀ x ∈ xs, Sh (f x) n c) → PyData.showableAll (xs.map f) = true ∧ PyData.depthAll (xs.map f) ≤ n ∧ csts (xs.map f) ≤ (c + 4) * xs.length
  | [], _ => ⟨rfl, Nat.zero_le _, Nat.zero_le _⟩
  | x :: r, h => by
    obtain ⟨h1, h2, h3⟩ := shAll (xs := r) fun y hy => h y (List.mem_cons_of_mem _ hy)
    obtain ⟨g1, g2, g3⟩ := h x List.mem_cons_self
    refine ⟨?_, ?_, ?_⟩
    · simp only [List.map_cons, PyData.showableAll, g1, h1, Bool.and_self]
    · simp only [List.map_cons, PyData.depthAll]; omega
    · simp only [List.map_cons, csts, List.length_cons, Nat.mul_add, Nat.mul_one]; omega
theorem Sh.tup {α : Type} {f : α → PyData} {n c m k j : Nat} {xs : List α} (h : ∀ x ∈ xs, Sh (f x) n c) (hm : n + 1 ≤ m) (hl : xs.length ≤ j) (hk : (c + 4) * j + 4 ≤ k) : Sh (.tuple (xs.map f)) m k := by
  obtain ⟨h1, h2, h3⟩ := shAll h
  have h4 := Nat.mul_le_mul_left (c + 4) hl
  refine ⟨h1, ?_, ?_⟩
  · simp only [PyData.depth]; omega
  · show csts _ + 4 ≤ k; omega
theorem Sh.lst {α : Type} {f : α → PyData} {n c m k j : Nat} {xs : List α} (h : ∀ x ∈ xs, Sh (f x) n c) (hm : n + 1 ≤ m) (hl : xs.length ≤ j) (hk : (c + 4) * j + 4 ≤ k) : Sh (.list (xs.map f)) m k := by
  obtain ⟨h1, h2, h3⟩ := shAll h
  have h4 := Nat.mul_le_mul_left (c + 4) hl
  refine ⟨h1, ?_, ?_⟩
  · simp only [PyData.depth]; omega
  · show csts _ + 4 ≤ k; omega
theorem int_sh {i : Int} (h1 : -(10 ^ 100) ≤ i) (h2 : i ≤ 10 ^ 100) : Sh (.int i) 0 1921 := by
  refine ⟨?_, Nat.le_refl _, Nat.le_refl _⟩
  have : i.natAbs.log2 < 1920 := log_lt (by decide) (Nat.lt_of_le_of_lt (m := 10 ^ 100) (by omega) (by decide))
  simpa [PyData.showable] using this
theorem Sh.mono {d : PyData} {n c n' c' : Nat} (h : Sh d n c) (h1 : n ≤ n') (h2 : c ≤ c') : Sh d n' c' := ⟨h.s, Nat.le_trans h.dep h1, Nat.le_trans h.c h2⟩
theorem rep_ {K : PySem.W.Frag} {σ : L2.St} {H : Hp} {x : V} {d : PyData} {n c : Nat} {Q : VK} (hd : Dp K H x d) (s : Sh d n c) (hn : n ≤ 60 := by decide) (hc : c ≤ 10000000 := by decide) (q : Q (.str d.shown) H) :
    tNil σ H (fun xs H2 => (fun vs H1 => rRepr K vs H1 Q) (x :: xs) H2) :=
  ⟨x, d, rfl, hd, s.s, Nat.le_trans s.dep hn, shown_sz s.s (dp_noDict d x hd) (Nat.le_trans s.c hc), q⟩
theorem dps {α : Type} {K : PySem.W.Frag} {H : Hp} {g : α → V} {f : α → PyData} : ∀ {xs : List α}, (∀ x ∈ xs, Dp K H (g x) (f x)) → DpAll K H (xs.map g) (xs.map f)
  | [], _ => .nil
  | x :: r, h => .cons (h x List.mem_cons_self) (dps fun y hy => h y (List.mem_cons_of_mem _ hy))
theorem po_sh {b : Int} {o : Option Int} (h : ∀ l, o = some l → -b ≤ l ∧ l ≤ b) (hb : b ≤ 10 ^ 100) : Sh (po o) 0 1921 := by
  cases o with
  | none => exact ⟨rfl, Nat.le_refl _, by show 5 ≤ 1921; decide⟩
  | some i => have := h i rfl; exact int_sh (by omega) (by omega)
theorem pd_sh1 {b : Int} {d : Dd} (h : d.In b) (hb : b ≤ 10 ^ 100) : Sh (pd d) 1 6000 := by
  have := h.1; have := h.2.1
  refine Sh.tup (f := id) (n := 0) (c := 1921) (j := 3) (xs := [.int d.add, po d.low, po d.high]) ?_ (Nat.le_refl _) (Nat.le_refl _) (by decide)
  intro x hx
  simp only [List.mem_cons, List.mem_nil_iff, or_false] at hx
  rcases hx with rfl | rfl | rfl
  · exact int_sh (by omega) (by omega)
  · exact po_sh h.2.2.1 hb
  · exact po_sh h.2.2.2 hb
/-! ### boards and asks -/
def BoardAt (H : Hp) (b : Addr) (bs : List Int) : Prop := H b = some (.tup (bs.map V.int)) ∧ 1 ≤ bs.length ∧ bs.length ≤ 16
def Wi (c : Int) (bs : List Int) : Prop := ∀ x ∈ bs, -c ≤ x ∧ x ≤ c
theorem BoardAt.same {H H' : Hp} {b : Addr} {bs : List Int} (e : Same H H') (h : BoardAt H b bs) : BoardAt H' b bs := ⟨e _ _ h.1, h.2⟩
structure Ak where
  a : Addr
  hand : Int
  box : Nat
  da : Addr
  d : Dd
def Ak.vs (x : Ak) : List V := [.int x.hand, .int x.box, .ref x.da]
def Ak.at_ (H : Hp) (nb : Nat) (x : Ak) : Prop := H x.a = some (.tup x.vs) ∧ Da H x.da x.d ∧ 0 ≤ x.hand ∧ x.hand < 16 ∧ x.box < nb
def AsksAt (H : Hp) (k : Addr) (as : List Ak) (nb : Nat) : Prop := H k = some (.tup (as.map fun x => .ref x.a)) ∧ as.length ≤ 40 ∧ ∀ x ∈ as, x.at_ H nb
theorem Ak.at_.same {H H' : Hp} {nb : Nat} {x : Ak} (e : Same H H') (h : x.at_ H nb) : x.at_ H' nb := ⟨e _ _ h.1, h.2.1.same e, h.2.2⟩
theorem AsksAt.same {H H' : Hp} {k : Addr} {as : List Ak} {nb : Nat} (e : Same H H') (h : AsksAt H k as nb) : AsksAt H' k as nb := ⟨e _ _ h.1, h.2.1, fun x hx => (h.2.2 x hx).same e⟩
theorem Da.but {p : Addr} {ys : List V} {H H' : Hp} {a : Addr} {d : Dd} (e : But p H H') (hp : H p = some (.lst ys)) (h : Da H a d) : Da H' a d := ⟨e _ _ (ne_of h.1 hp (by intro z; cases z)) h.1, h.2⟩
theorem Ak.at_.but {p : Addr} {ys : List V} {H H' : Hp} {nb : Nat} {x : Ak} (e : But p H H') (hp : H p = some (.lst ys)) (h : x.at_ H nb) : x.at_ H' nb := ⟨e _ _ (ne_of h.1 hp (by intro z; cases z)) h.1, h.2.1.but e hp, h.2.2⟩
def Ak.pd (x : Ak) : PyData := .tuple [.int x.hand, .int x.box, Toy.pd x.d]
theorem Ak.at_.dp {K : PySem.W.Frag} {H : Hp} {nb : Nat} {x : Ak} (h : x.at_ H nb) : Dp K H (.ref x.a) x.pd := .tup (SqT.of h.1) (.cons (.int _) (.cons (.int _) (.cons h.2.1.dp .nil)))
theorem Ak.at_.sh {H : Hp} {nb : Nat} {x : Ak} (h : x.at_ H nb) (hn : nb ≤ 16) : Sh x.pd 2 19000 := by
  refine Sh.tup (f := id) (n := 1) (c := 6000) (j := 3) (xs := [.int x.hand, .int x.box, Toy.pd x.d]) ?_ (Nat.le_refl _) (Nat.le_refl _) (by decide)
  have := h.2.2
  intro y hy
  simp only [List.mem_cons, List.mem_nil_iff, or_false] at hy
  rcases hy with rfl | rfl | rfl
  · exact (int_sh (by omega) (by omega)).mono (by decide) (by decide)
  · exact (int_sh (by omega) (by omega)).mono (by decide) (by decide)
  · exact pd_sh1 h.2.1.2.1 (by decide)
def intsD (bs : List Int) : PyData := .tuple (bs.map PyData.int)
theorem ints_sh1 {bs : List Int} {c : Int} {n : Nat} (h : Wi c bs) (hc : c ≤ 10 ^ 100) (hn : bs.length ≤ n) : Sh (intsD bs) 1 (1925 * n + 4) :=
  Sh.tup (n := 0) (c := 1921) (j := n) (fun x hx => have := h x hx; int_sh (by omega) (by omega)) (Nat.le_refl _) hn (by omega)
theorem BoardAt.dp {K : PySem.W.Frag} {H : Hp} {b : Addr} {bs : List Int} (h : BoardAt H b bs) : Dp K H (.ref b) (intsD bs) := tupI_dp (SqT.of h.1)
def akD (as : List Ak) : PyData := .tuple (as.map Ak.pd)
theorem AsksAt.dp {K : PySem.W.Frag} {H : Hp} {k : Addr} {as : List Ak} {nb : Nat} (h : AsksAt H k as nb) : Dp K H (.ref k) (akD as) := .tup (SqT.of h.1) (dps fun x hx => (h.2.2 x hx).dp)
theorem AsksAt.sh {H : Hp} {k : Addr} {as : List Ak} {nb : Nat} (h : AsksAt H k as nb) (hn : nb ≤ 16) : Sh (akD as) 3 800000 :=
  Sh.tup (n := 2) (c := 19000) (j := 40) (fun x hx => (h.2.2 x hx).sh hn) (Nat.le_refl _) h.2.1 (by decide)
/-! ### asks played -/
def stepP (s : List Int × List Int) (x : Ak) : List Int × List Int := (s.1 ++ [s.2.getD x.box 0], s.2.set x.box (x.d.ap (s.2.getD x.box 0)))
def play (as : List Ak) (bs : List Int) : List Int × List Int := as.foldl stepP ([], bs)
theorem play_snoc {as : List Ak} {bs : List Int} {i : Nat} {x : Ak} (h : as[i]? = some x) : play (as.take (i + 1)) bs = stepP (play (as.take i) bs) x := by
  unfold play; rw [take_snoc h, List.foldl_append] <;> rfl
theorem Wi.set {c : Int} {bs : List Int} {i : Nat} {v : Int} (h : Wi c bs) (h1 : -c ≤ v) (h2 : v ≤ c) : Wi c (bs.set i v) := fun x hx => by
  rcases List.mem_or_eq_of_mem_set hx with h3 | h3
  · exact h x h3
  · subst h3; exact ⟨h1, h2⟩
theorem Wi.mono {c c' : Int} {bs : List Int} (h : Wi c bs) (e : c ≤ c') : Wi c' bs := fun x hx => by have := h x hx; omega
theorem Wi.get {c : Int} {bs : List Int} {i : Nat} (h : Wi c bs) (h0 : 0 ≤ c) : -c ≤ bs.getD i 0 ∧ bs.getD i 0 ≤ c := by
  rw [List.getD_eq_getElem?_getD]
  cases e : bs[i]? with
  | none => show -c ≤ 0 ∧ 0 ≤ c; omega
  | some x => exact h x (List.mem_of_getElem? e)
theorem snoc_ind {α : Type} {p : List α → Prop} (nil : p []) (snoc : ∀ l x, p l → p (l ++ [x])) (l : List α) : p l := by
  have h : ∀ l : List α, p l.reverse := fun l => by
    induction l with
    | nil => exact nil
    | cons x r ih => rw [List.reverse_cons]; exact snoc _ _ ih
  have := h l.reverse
  rwa [List.reverse_reverse] at this
theorem play_in {H : Hp} {nb : Nat} {bs : List Int} {c : Int} (hc : 0 ≤ c) (hb : Wi c bs) : ∀ {as : List Ak}, (∀ x ∈ as, x.at_ H nb) → (play as bs).1.length = as.length ∧ (play as bs).2.length = bs.length ∧ Wi (c + as.length * 10 ^ 80) (play as bs).1 ∧ Wi (c + as.length * 10 ^ 80) (play as bs).2 := by
  intro as
  induction as using snoc_ind with
  | nil => exact fun _ => ⟨rfl, rfl, (fun x hx => (nomatch hx)), hb.mono (by show c ≤ c + ((0 : Nat) : Int) * _; omega)⟩
  | snoc as x ih =>
    intro h
    obtain ⟨i1, i2, i3, i4⟩ := ih fun y hy => h y (List.mem_append_left _ hy)
    have hx := h x (List.mem_append_right _ List.mem_cons_self)
    have e : play (as ++ [x]) bs = stepP (play as bs) x := by unfold play; rw [List.foldl_append] <;> rfl
    have hg := i4.get (i := x.box) (by omega)
    have ha := ap_in (v := (play as bs).2.getD x.box 0) hx.2.1.2.1 hg.1 hg.2 (by omega)
    rw [e]
    have el : (((as ++ [x]).length : Nat) : Int) = as.length + 1 := by simp
    rw [el]
    refine ⟨?_, ?_, ?_, ?_⟩
    · show (_ ++ [_]).length = _; simp [i1]
    · show (List.set _ _ _).length = _; simp [i2]
    · intro y hy
      rcases List.mem_append.mp (show y ∈ _ ++ [_] from hy) with h3 | h3
      · have := i3 y h3; omega
      · have := List.mem_singleton.mp h3; subst this; omega
    · exact Wi.set (i4.mono (by omega)) (by omega) (by omega)
theorem menu8 : ∀ j : Nat, j < 8 → ∃ z : Int, ([.int 2147483629, .int 2147483587, .int 2147483579, .int 2147483563, .int 2147483549, .int 2147483543, .int 2147483497, .int 2147483489] : List V)[j]? = some (.int z) ∧ 0 < z ∧ z ≤ 2147483629
  | 0, _ => ⟨_, rfl, by decide, by decide⟩
  | 1, _ => ⟨_, rfl, by decide, by decide⟩
  | 2, _ => ⟨_, rfl, by decide, by decide⟩
  | 3, _ => ⟨_, rfl, by decide, by decide⟩
  | 4, _ => ⟨_, rfl, by decide, by decide⟩
  | 5, _ => ⟨_, rfl, by decide, by decide⟩
  | 6, _ => ⟨_, rfl, by decide, by decide⟩
  | 7, _ => ⟨_, rfl, by decide, by decide⟩
  | n + 8, h => absurd h (by omega)
theorem at3 {x0 x1 x2 : Int} : ∀ j : Nat, j < 3 → ∃ z : Int, ([.int x0, .int x1, .int x2] : List V)[j]? = some (.int z) ∧ (z = x0 ∨ z = x1 ∨ z = x2)
  | 0, _ => ⟨_, rfl, .inl rfl⟩
  | 1, _ => ⟨_, rfl, .inr (.inl rfl)⟩
  | 2, _ => ⟨_, rfl, .inr (.inr rfl)⟩
  | n + 3, h => absurd h (by omega)
theorem but_upd {p D : Addr} {H H1 : Hp} {o : HO} (n : H D = none) (a : But p H H1) : But p H (upd H1 D o) := fun b u hb e => by rw [upd_ne (ne_of_none e n)]; exact a b u hb e
theorem PotAt.upd {H : Hp} {p D : Addr} {o : HO} (n : p ≠ D) (h : PotAt H p) : PotAt (L2.upd H D o) p := by
  obtain ⟨a, b, h1, h2⟩ := h
  exact ⟨a, b, by rw [upd_ne n]; exact h1, h2⟩
theorem Wi.snoc {c : Int} {bs : List Int} {x : Int} (h : Wi c bs) (h1 : -c ≤ x) (h2 : x ≤ c) : Wi c (bs ++ [x]) := fun y hy => by
  rcases List.mem_append.mp hy with h3 | h3
  · exact h y h3
  · have := List.mem_singleton.mp h3; subst this; exact ⟨h1, h2⟩
theorem play_len {as : List Ak} {bs : List Int} : (play as bs).1.length = as.length ∧ (play as bs).2.length = bs.length := by
  induction as using snoc_ind with
  | nil => exact ⟨rfl, rfl⟩
  | snoc as x ih =>
    have e : play (as ++ [x]) bs = stepP (play as bs) x := by unfold play; rw [List.foldl_append] <;> rfl
    rw [e]
    refine ⟨?_, ?_⟩
    · show (_ ++ [_]).length = _; simp [ih.1]
    · show (List.set _ _ _).length = _; simp [ih.2]
theorem map_getD {us : List Int} {i : Nat} (h : i < us.length) : (us.map V.int)[i]? = some (.int (us.getD i 0)) := by
  rw [List.getElem?_map, List.getD_eq_getElem?_getD, List.getElem?_eq_getElem h] <;> rfl
/-- what is told of asks played -/
def TwoAt (H : Hp) (r : Addr) (s : List Int × List Int) : Prop := ∃ t1 t2, H r = some (.tup [.ref t1, .ref t2]) ∧ H t1 = some (.tup (s.1.map V.int)) ∧ H t2 = some (.tup (s.2.map V.int))
theorem TwoAt.same {H H' : Hp} {r : Addr} {s : List Int × List Int} (e : Same H H') (h : TwoAt H r s) : TwoAt H' r s := by
  obtain ⟨a, b, h1, h2, h3⟩ := h
  exact ⟨a, b, e _ _ h1, e _ _ h2, e _ _ h3⟩
def twoD (s : List Int × List Int) : PyData := .tuple [intsD s.1, intsD s.2]
theorem TwoAt.dp {K : PySem.W.Frag} {H : Hp} {r : Addr} {s : List Int × List Int} (h : TwoAt H r s) : Dp K H (.ref r) (twoD s) := by
  obtain ⟨a, b, h1, h2, h3⟩ := h
  exact .tup (SqT.of h1) (.cons (tupI_dp (SqT.of h2)) (.cons (tupI_dp (SqT.of h3)) .nil))
theorem play_sh {H : Hp} {k : Addr} {as : List Ak} {bs : List Int} {c : Int} (hk : AsksAt H k as bs.length) (hn : bs.length ≤ 16) (hw : Wi c bs) (h0 : 0 ≤ c) (hc : c ≤ 10 ^ 91) : Sh (twoD (play as bs)) 2 160000 := by
  obtain ⟨h1, h2, h3, h4⟩ := play_in h0 hw hk.2.2
  have h40 := hk.2.1
  have hb : c + (as.length : Int) * 10 ^ 80 ≤ 10 ^ 100 := by omega
  refine Sh.tup (f := id) (n := 1) (c := 77004) (j := 2) (xs := [intsD (play as bs).1, intsD (play as bs).2]) ?_ (Nat.le_refl _) (Nat.le_refl _) (by decide)
  intro x hx
  simp only [List.mem_cons, List.mem_nil_iff, or_false] at hx
  rcases hx with rfl | rfl
  · exact ints_sh1 (n := 40) h3 hb (by omega)
  · exact ints_sh1 (n := 40) h4 hb (by omega)
/-! ### trees -/
inductive Tr where
  | leaf (n : Nat)
  | node (l r : Tr)
def Tr.cnt : Tr → Nat
  | .leaf _ => 1
  | .node l r => l.cnt + r.cnt
def Tr.h : Tr → Nat
  | .leaf _ => 1
  | .node l r => max l.h r.h + 1
def Tr.d : Tr → PyData
  | .leaf n => .int n
  | .node l r => .tuple [l.d, r.d]
def Tr.big : Tr → Nat
  | .leaf n => n
  | .node l r => max l.big r.big
def TrAt (H : Hp) : V → Tr → Prop
  | v, .leaf n => v = .int n
  | v, .node l r => ∃ a x y, v = .ref a ∧ H a = some (.tup [x, y]) ∧ TrAt H x l ∧ TrAt H y r
theorem TrAt.same {H H' : Hp} (e : Same H H') : ∀ {t : Tr} {v : V}, TrAt H v t → TrAt H' v t
  | .leaf _, _, h => h
  | .node l r, _, ⟨a, x, y, h1, h2, h3, h4⟩ => ⟨a, x, y, h1, e _ _ h2, TrAt.same e h3, TrAt.same e h4⟩
theorem TrAt.dp {K : PySem.W.Frag} {H : Hp} : ∀ {t : Tr} {v : V}, TrAt H v t → Dp K H v t.d
  | .leaf n, _, h => by
    cases (show _ = V.int n from h)
    exact .int n
  | .node l r, _, ⟨a, x, y, h1, h2, h3, h4⟩ => by
    cases h1
    exact .tup (SqT.of h2) (.cons h3.dp (.cons h4.dp .nil))
theorem Tr.sh : ∀ {t : Tr} {b : Nat}, t.big ≤ b → b ≤ 10 ^ 9 → t.d.showable = true ∧ t.d.depth + 1 ≤ t.h ∧ cst t.d + 12 ≤ 1940 * t.cnt
  | .leaf n, b, h, hb => by
    have h' : n ≤ b := h
    have i := int_sh (i := n) (by omega) (by omega)
    exact ⟨i.s, Nat.le_refl _, by show 1921 + 12 ≤ 1940 * 1; decide⟩
  | .node l r, b, h, hb => by
    have h' : max l.big r.big ≤ b := h
    obtain ⟨a1, a2, a3⟩ := Tr.sh (t := l) (b := b) (by omega) hb
    obtain ⟨b1, b2, b3⟩ := Tr.sh (t := r) (b := b) (by omega) hb
    refine ⟨?_, ?_, ?_⟩
    · simp only [Tr.d, PyData.showable, PyData.showableAll, a1, b1, Bool.and_self]
    · simp only [Tr.d, PyData.depth, PyData.depthAll, Tr.h]; omega
    · show (cst l.d + 4 + (cst r.d + 4 + 0)) + 4 + 12 ≤ 1940 * (l.cnt + r.cnt); omega
theorem Tr.shw {t : Tr} (h1 : t.big ≤ 10 ^ 9) (h2 : t.h ≤ 50) (h3 : t.cnt ≤ 50) : Sh t.d 60 100000 := by
  obtain ⟨a, b, c⟩ := Tr.sh h1 (Nat.le_refl _)
  exact ⟨a, by omega, by omega⟩
theorem Tr.h_pos : ∀ t : Tr, 1 ≤ t.h
  | .leaf _ => Nat.le_refl _
  | .node _ _ => Nat.le_add_left _ _
/-- the halved tree -/
def hv (f m : Nat) : Tr := if m ≤ 1 then .leaf f else .node (hv f ((m + 1) / 2)) (hv (f + (m + 1) / 2) (m - (m + 1) / 2))
termination_by m
decreasing_by all_goals omega
theorem hv_one {f m : Nat} (h : m ≤ 1) : hv f m = .leaf f := by rw [hv, if_pos h]
theorem hv_more {f m : Nat} (h : ¬ m ≤ 1) : hv f m = .node (hv f ((m + 1) / 2)) (hv (f + (m + 1) / 2) (m - (m + 1) / 2)) := by rw [hv, if_neg h]
def IsH : Tr → Nat → Prop
  | .leaf n, f => n = f
  | .node l r, f => (l.cnt = r.cnt ∨ l.cnt = r.cnt + 1) ∧ IsH l f ∧ IsH r (f + l.cnt)
theorem hv_is : ∀ (m f : Nat), 1 ≤ m → IsH (hv f m) f ∧ (hv f m).cnt = m ∧ (hv f m).h ≤ m ∧ (hv f m).big ≤ f + m := by
  intro m
  induction m using Nat.strongRecOn with
  | _ m ih =>
    intro f h
    by_cases c : m ≤ 1
    · rw [hv_one c]
      have : m = 1 := by omega
      subst this
      exact ⟨rfl, rfl, Nat.le_refl _, Nat.le_add_right _ _⟩
    · rw [hv_more c]
      obtain ⟨a1, a2, a3, a4⟩ := ih ((m + 1) / 2) (by omega) f (by omega)
      obtain ⟨b1, b2, b3, b4⟩ := ih (m - (m + 1) / 2) (by omega) (f + (m + 1) / 2) (by omega)
      refine ⟨⟨by omega, a1, by rw [a2]; exact b1⟩, ?_, ?_, ?_⟩
      · show _ + _ = _; omega
      · show max _ _ + 1 ≤ _; omega
      · show max _ _ ≤ _; omega
/-- the chained tree of so many -/
def ch : Nat → Tr
  | 0 => .leaf 0
  | n + 1 => .node (ch n) (.leaf (n + 1))
theorem ch_is : ∀ n, (ch n).cnt = n + 1 ∧ (ch n).h ≤ n + 1 ∧ (ch n).big ≤ n
  | 0 => ⟨rfl, Nat.le_refl _, Nat.le_refl _⟩
  | n + 1 => by
    obtain ⟨a, b, c⟩ := ch_is n
    refine ⟨?_, ?_, ?_⟩
    · show _ + 1 = _; omega
    · show max _ 1 + 1 ≤ _; omega
    · show max _ (n + 1) ≤ _; omega
theorem TrAt.but {p : Addr} {ys : List V} {H H' : Hp} (e : But p H H') (hp : H p = some (.lst ys)) : ∀ {t : Tr} {v : V}, TrAt H v t → TrAt H' v t
  | .leaf _, _, h => h
  | .node l r, _, ⟨a, x, y, h1, h2, h3, h4⟩ => ⟨a, x, y, h1, e _ _ (ne_of h2 hp (by intro z; cases z)) h2, TrAt.but e hp h3, TrAt.but e hp h4⟩
/-! ### rows of deeds, folded and shared out -/
def behs (ds : List Dd) : Dd := ds.foldl beh look
def Oks (ds : List Dd) : Prop := ∀ d ∈ ds, d.Ok
theorem behs_snoc (ds : List Dd) (d : Dd) : behs (ds ++ [d]) = beh (behs ds) d := by unfold behs; rw [List.foldl_append] <;> rfl
theorem behs_ok : ∀ {ds : List Dd}, Oks ds → (behs ds).Ok := by
  intro ds
  induction ds using snoc_ind with
  | nil => exact fun _ => look_ok
  | snoc ds d ih => exact fun h => by rw [behs_snoc]; exact beh_ok (ih fun x hx => h x (List.mem_append_left _ hx)) (h d (List.mem_append_right _ List.mem_cons_self))
theorem behs_app {xs : List Dd} (hx : Oks xs) : ∀ {ys : List Dd}, Oks ys → behs (xs ++ ys) = beh (behs xs) (behs ys) := by
  intro ys
  induction ys using snoc_ind with
  | nil => exact fun _ => by rw [List.append_nil]; exact (beh_look (behs_ok hx)).symm
  | snoc ys y ih =>
    intro h
    have h1 : Oks ys := fun x hx => h x (List.mem_append_left _ hx)
    have h2 : y.Ok := h y (List.mem_append_right _ List.mem_cons_self)
    rw [← List.append_assoc, behs_snoc, ih h1, behs_snoc, beh_assoc (behs_ok hx) (behs_ok h1) h2]
theorem behs_one {d : Dd} (h : d.Ok) : behs [d] = d := look_beh h
def ans : Int → List Dd → List Int
  | _, [] => []
  | v, d :: r => v :: ans (d.ap v) r
def aps : Int → List Dd → Int
  | v, [] => v
  | v, d :: r => aps (d.ap v) r
theorem aps_snoc : ∀ (ds : List Dd) (v : Int) (d : Dd), aps v (ds ++ [d]) = d.ap (aps v ds)
  | [], _, _ => rfl
  | _ :: r, _, _ => aps_snoc r _ _
theorem ans_app : ∀ (xs ys : List Dd) (v : Int), ans v (xs ++ ys) = ans v xs ++ ans (aps v xs) ys
  | [], _, _ => rfl
  | x :: r, ys, v => congrArg (v :: ·) (ans_app r ys _)
theorem ans_len : ∀ (xs : List Dd) (v : Int), (ans v xs).length = xs.length
  | [], _ => rfl
  | _ :: r, _ => congrArg (· + 1) (ans_len r _)
theorem behs_ap : ∀ {ds : List Dd}, Oks ds → ∀ v, (behs ds).ap v = aps v ds := by
  intro ds
  induction ds using snoc_ind with
  | nil => exact fun _ v => look_ap v
  | snoc ds d ih =>
    intro h v
    have h1 : Oks ds := fun x hx => h x (List.mem_append_left _ hx)
    have h2 : d.Ok := h d (List.mem_append_right _ List.mem_cons_self)
    rw [behs_snoc, beh_ap (behs_ok h1) h2, ih h1, aps_snoc]
/-- a tree's leaves are the numbers from one on -/
def IsRow : Tr → Nat → Prop
  | .leaf n, f => n = f
  | .node l r, f => IsRow l f ∧ IsRow r (f + l.cnt)
theorem Tr.cnt_pos : ∀ t : Tr, 1 ≤ t.cnt
  | .leaf _ => Nat.le_refl _
  | .node l r => Nat.le_trans l.cnt_pos (Nat.le_add_right _ _)
theorem Tr.h_cnt : ∀ t : Tr, t.h ≤ t.cnt
  | .leaf _ => Nat.le_refl _
  | .node l r => by
    have := l.h_cnt; have := r.h_cnt; have := l.cnt_pos; have := r.cnt_pos
    show max l.h r.h + 1 ≤ l.cnt + r.cnt
    omega
theorem IsRow.big : ∀ {t : Tr} {f : Nat}, IsRow t f → t.big ≤ f + t.cnt
  | .leaf n, f, h => by cases (show n = f from h); exact Nat.le_add_right _ _
  | .node l r, f, ⟨h1, h2⟩ => by
    have := h1.big; have := h2.big
    show max l.big r.big ≤ f + (l.cnt + r.cnt)
    omega
theorem isH_row : ∀ {t : Tr} {f : Nat}, IsH t f → IsRow t f
  | .leaf _, _, h => h
  | .node _ _, _, ⟨_, h1, h2⟩ => ⟨isH_row h1, isH_row h2⟩
theorem ch_row : ∀ n, IsRow (ch n) 0
  | 0 => rfl
  | n + 1 => ⟨ch_row n, by show n + 1 = 0 + (ch n).cnt; rw [(ch_is n).1]; omega⟩
def FT (ds : List Dd) : Tr → Dd
  | .leaf n => ds.getD n look
  | .node l r => beh (FT ds l) (FT ds r)
def ST (ds : List Dd) : Tr → Int → List Int
  | .leaf _, v => [v]
  | .node l r, v => ST ds l v ++ ST ds r ((FT ds l).ap v)
theorem cut_add {ds : List Dd} {f a b : Nat} : (ds.drop f).take (a + b) = (ds.drop f).take a ++ (ds.drop (f + a)).take b := by
  rw [List.take_add, List.drop_drop]
theorem oks_cut {ds : List Dd} (h : Oks ds) (f n : Nat) : Oks ((ds.drop f).take n) := fun d hd => h d (List.mem_of_mem_drop (List.mem_of_mem_take hd))
theorem cut_one {ds : List Dd} {n : Nat} (h : n < ds.length) : (ds.drop n).take 1 = [ds.getD n look] := by
  rw [List.getD_eq_getElem?_getD, List.getElem?_eq_getElem h, List.drop_eq_getElem_cons h] <;> rfl
theorem FT_is {ds : List Dd} (ok : Oks ds) : ∀ {t : Tr} {f : Nat}, IsRow t f → f + t.cnt ≤ ds.length → FT ds t = behs ((ds.drop f).take t.cnt)
  | .leaf n, f, h, hl => by
    cases (show n = f from h)
    have hl' : n < ds.length := hl
    show ds.getD n look = behs ((ds.drop n).take 1)
    rw [cut_one hl', behs_one]
    refine ok _ ?_
    rw [List.getD_eq_getElem?_getD, List.getElem?_eq_getElem hl']
    exact List.getElem_mem hl'
  | .node l r, f, ⟨h1, h2⟩, hl => by
    have hl' : f + (l.cnt + r.cnt) ≤ ds.length := hl
    show beh (FT ds l) (FT ds r) = behs ((ds.drop f).take (l.cnt + r.cnt))
    rw [FT_is ok h1 (by omega), FT_is ok h2 (by omega), cut_add, behs_app (oks_cut ok _ _) (oks_cut ok _ _)]
theorem ST_is {ds : List Dd} (ok : Oks ds) : ∀ {t : Tr} {f : Nat} {v : Int}, IsRow t f → f + t.cnt ≤ ds.length → ST ds t v = ans v ((ds.drop f).take t.cnt)
  | .leaf n, f, v, h, hl => by
    cases (show n = f from h)
    have hl' : n < ds.length := hl
    show [v] = ans v ((ds.drop n).take 1)
    rw [cut_one hl'] <;> rfl
  | .node l r, f, v, ⟨h1, h2⟩, hl => by
    have hl' : f + (l.cnt + r.cnt) ≤ ds.length := hl
    show ST ds l v ++ ST ds r ((FT ds l).ap v) = ans v ((ds.drop f).take (l.cnt + r.cnt))
    rw [ST_is ok h1 (by omega), ST_is ok h2 (by omega), cut_add, ans_app, FT_is ok h1 (by omega), behs_ap (oks_cut ok _ _)]
theorem FT_all {ds : List Dd} (ok : Oks ds) {t : Tr} (h : IsRow t 0) (hl : t.cnt = ds.length) : FT ds t = behs ds := by
  rw [FT_is ok h (by omega), List.drop_zero, hl, List.take_length]
theorem ST_all {ds : List Dd} (ok : Oks ds) {t : Tr} {v : Int} (h : IsRow t 0) (hl : t.cnt = ds.length) : ST ds t v = ans v ds := by
  rw [ST_is ok h (by omega), List.drop_zero, hl, List.take_length]
/-- a tuple of deeds -/
def DsAt (H : Hp) (k : Addr) (ps : List (Addr × Dd)) : Prop := H k = some (.tup (ps.map fun x => .ref x.1)) ∧ 1 ≤ ps.length ∧ ps.length ≤ 40 ∧ ∀ x ∈ ps, Da H x.1 x.2
theorem DsAt.same {H H' : Hp} {k : Addr} {ps : List (Addr × Dd)} (e : Same H H') (h : DsAt H k ps) : DsAt H' k ps := ⟨e _ _ h.1, h.2.1, h.2.2.1, fun x hx => (h.2.2.2 x hx).same e⟩
def dsOf (ps : List (Addr × Dd)) : List Dd := ps.map Prod.snd
theorem DsAt.oks {H : Hp} {k : Addr} {ps : List (Addr × Dd)} (h : DsAt H k ps) : Oks (dsOf ps) := fun d hd => by
  obtain ⟨x, hx, rfl⟩ := List.mem_map.mp hd
  exact (h.2.2.2 x hx).2.2
/-- rows of trees, one after another -/
def Rows : List Tr → Nat → Nat → Prop
  | [], f, m => f = m
  | t :: r, f, m => IsRow t f ∧ Rows r (f + t.cnt) m
def Tr.sz : Tr → Nat
  | .leaf _ => 1
  | .node l r => l.sz + r.sz + 1
def szs : List Tr → Nat
  | [] => 0
  | t :: r => t.sz + szs r
theorem Tr.lay : ∀ t : Tr, t.d.canLay0 = true
  | .leaf _ => rfl
  | .node l r => by
    have := l.lay; have := r.lay
    simp_all [Tr.d, PyData.canLay0, PyData.canLayAll0]
theorem rows_len : ∀ {ts : List Tr} {f m : Nat}, Rows ts f m → ts.length + f ≤ m
  | [], _, _, h => by cases (show _ = _ from h); exact Nat.le_of_eq (Nat.zero_add _)
  | t :: r, f, m, ⟨_, h⟩ => by
    have := rows_len h
    have := t.cnt_pos
    show r.length + 1 + f ≤ m
    omega
theorem eqv_nil : ∀ ds : List PyData, PyData.eqv (.list ds) (.list []) = ds.isEmpty
  | [] => rfl
  | _ :: _ => rfl
theorem lays {ts : List (V × Tr)} : PyData.canLayAll0 (ts.map fun x => x.2.d) = true := by
  induction ts with
  | nil => rfl
  | cons x r ih => simp [PyData.canLayAll0, x.2.lay, ih]
theorem depths : ∀ {xs : List (V × Tr)}, (∀ x ∈ xs, x.2.h ≤ 40 ∧ x.2.big ≤ 100) → PyData.depthAll (xs.map fun x => x.2.d) ≤ 50
  | [], _ => Nat.zero_le _
  | x :: r, hx => by
    have h1 := depths (xs := r) fun y hy => hx y (List.mem_cons_of_mem _ hy)
    have h2 := hx x List.mem_cons_self
    have h3 := (Tr.sh (Nat.le_trans h2.2 (by decide)) (Nat.le_refl (10 ^ 9))).2.1
    simp only [List.map_cons, PyData.depthAll]
    omega
theorem ST_len (ds : List Dd) : ∀ (t : Tr) (v : Int), (ST ds t v).length = t.cnt
  | .leaf _, _ => rfl
  | .node l r, v => by
    show (ST ds l v ++ ST ds r _).length = l.cnt + r.cnt
    rw [List.length_append, ST_len ds l, ST_len ds r]
def TsAt (H : Hp) (T : Addr) (ts : List (V × Tr)) (m : Nat) : Prop := H T = some (.lst (ts.map fun x => x.1)) ∧ ts.length ≤ 6 ∧ ∀ x ∈ ts, TrAt H x.1 x.2 ∧ IsRow x.2 0 ∧ x.2.cnt = m
theorem TsAt.same {H H' : Hp} {T : Addr} {ts : List (V × Tr)} {m : Nat} (e : Same H H') (h : TsAt H T ts m) : TsAt H' T ts m := ⟨e _ _ h.1, h.2.1, fun x hx => ⟨(h.2.2 x hx).1.same e, (h.2.2 x hx).2⟩⟩
theorem TsAt.but {p : Addr} {H H' : Hp} {T : Addr} {ts : List (V × Tr)} {m : Nat} (e : But p H H') (n : T ≠ p) {ys : List V} (hp : H p = some (.lst ys)) (h : TsAt H T ts m) : TsAt H' T ts m := ⟨e _ _ n h.1, h.2.1, fun x hx => ⟨(h.2.2 x hx).1.but e hp, (h.2.2 x hx).2⟩⟩
def tsD (ts : List (V × Tr)) : PyData := .list (ts.map fun x => x.2.d)
theorem TsAt.dp {K : PySem.W.Frag} {H : Hp} {T : Addr} {ts : List (V × Tr)} {m : Nat} (h : TsAt H T ts m) : Dp K H (.ref T) (tsD ts) := .lst (SqL.of h.1) (dps fun x hx => (h.2.2 x hx).1.dp)
theorem row_sh {t : Tr} {m : Nat} (h : IsRow t 0) (hc : t.cnt = m) (hm : m ≤ 40) : Sh t.d 40 80000 := by
  have h1 := h.big
  have h2 := t.h_cnt
  obtain ⟨a, b, c⟩ := Tr.sh (t := t) (b := 100) (by omega) (by decide)
  exact ⟨a, by omega, by omega⟩
theorem TsAt.sh {H : Hp} {T : Addr} {ts : List (V × Tr)} {m : Nat} (h : TsAt H T ts m) (hm : m ≤ 40) : Sh (tsD ts) 41 500000 :=
  Sh.lst (n := 40) (c := 80000) (j := 6) (fun x hx => row_sh (h.2.2 x hx).2.1 (h.2.2 x hx).2.2 hm) (Nat.le_refl _) h.2.1 (by decide)
theorem behs_in {b : Int} (h0 : 0 ≤ b) : ∀ {ds : List Dd}, (∀ d ∈ ds, d.In b) → (behs ds).In (ds.length * b) := by
  intro ds
  induction ds using snoc_ind with
  | nil => exact fun _ => by show look.In _; exact look_in (by simp)
  | snoc ds d ih =>
    intro h
    rw [behs_snoc]
    have h1 := ih fun x hx => h x (List.mem_append_left _ hx)
    have h2 := h d (List.mem_append_right _ List.mem_cons_self)
    have h3 := beh_in h1 h2 (Int.mul_nonneg (by omega) h0) h0
    rw [show (((ds ++ [d]).length : Nat) : Int) = ds.length + 1 by simp, Int.add_mul]
    refine In.le h3 ?_
    omega
theorem ans_in {b : Int} (h0 : 0 ≤ b) : ∀ {ds : List Dd} {v c : Int}, (∀ d ∈ ds, d.In b) → -c ≤ v → v ≤ c → 0 ≤ c → Wi (c + ds.length * b) (ans v ds)
  | [], _, _, _, _, _, _ => fun x hx => nomatch hx
  | d :: r, v, c, h, h1, h2, hc => by
    have h3 := ap_in (h d List.mem_cons_self) h1 h2 hc
    have h4 := ans_in h0 (ds := r) (v := d.ap v) (c := b + c) (fun x hx => h x (List.mem_cons_of_mem _ hx)) (by omega) (by omega) (by omega)
    have e : c + (((d :: r).length : Nat) : Int) * b = b + c + (r.length : Int) * b := by
      rw [List.length_cons, Int.natCast_add, Int.add_mul]
      omega
    have h5 := Int.mul_nonneg (show (0 : Int) ≤ (((d :: r).length : Nat) : Int) by omega) h0
    intro x hx
    rcases List.mem_cons.mp (show x ∈ v :: ans (d.ap v) r from hx) with rfl | hx
    · omega
    · rw [e]; exact h4 x hx
theorem DsAt.but {p : Addr} {H H' : Hp} {k : Addr} {ps : List (Addr × Dd)} (e : But p H H') {ys : List V} (hp : H p = some (.lst ys)) (h : DsAt H k ps) : DsAt H' k ps := ⟨e _ _ (ne_of h.1 hp (by intro z; cases z)) h.1, h.2.1, h.2.2.1, fun x hx => (h.2.2.2 x hx).but e hp⟩
def dsD (ps : List (Addr × Dd)) : PyData := .tuple (ps.map fun x => Toy.pd x.2)
theorem DsAt.dp {K : PySem.W.Frag} {H : Hp} {k : Addr} {ps : List (Addr × Dd)} (h : DsAt H k ps) : Dp K H (.ref k) (dsD ps) := .tup (SqT.of h.1) (dps fun x hx => (h.2.2.2 x hx).dp)
theorem DsAt.sh {H : Hp} {k : Addr} {ps : List (Addr × Dd)} (h : DsAt H k ps) : Sh (dsD ps) 2 250000 :=
  Sh.tup (n := 1) (c := 6000) (j := 40) (fun x hx => pd_sh1 (h.2.2.2 x hx).2.1 (by decide)) (Nat.le_refl _) h.2.2.1 (by decide)
theorem DsAt.ins {H : Hp} {k : Addr} {ps : List (Addr × Dd)} (h : DsAt H k ps) : ∀ d ∈ dsOf ps, d.In (10 ^ 80) := fun d hd => by
  obtain ⟨x, hx, rfl⟩ := List.mem_map.mp hd
  exact (h.2.2.2 x hx).2.1
theorem cut_mapG {α : Type} {g : α → V} (us : List α) (lo hi : Option Int) : ∃ ws : List α, cutV (us.map g) lo hi = ws.map g ∧ (ws.length ≤ us.length ∧ ∀ x ∈ ws, x ∈ us) := by
  refine ⟨(us.drop (HT.sIx (us.map g).length 0 lo)).take (HT.sIx (us.map g).length (us.map g).length hi - HT.sIx (us.map g).length 0 lo), ?_, ?_, fun x hx => List.mem_of_mem_drop (List.mem_of_mem_take hx)⟩
  · unfold cutV; rw [List.map_take, List.map_drop]
  · rw [List.length_take, List.length_drop]; omega
/-! ### data: rows of numbers, grids, folds by a table -/
def iN (xs : List Nat) : List Int := xs.map fun n : Nat => (n : Int)
theorem iN_at {xs : List Nat} {j n : Nat} (h : xs[j]? = some n) : ((iN xs).map V.int)[j]? = some (.int (n : Nat)) := by
  unfold iN
  rw [List.getElem?_map, List.getElem?_map, h] <;> rfl
theorem iN_len {xs : List Nat} : ((iN xs).map V.int).length = xs.length := by unfold iN; rw [List.length_map, List.length_map]
theorem iN_snoc {xs : List Nat} {n : Nat} : (iN xs).map V.int ++ [.int (n : Nat)] = (iN (xs ++ [n])).map V.int := by unfold iN; rw [List.map_append, List.map_append] <;> rfl
theorem iN_app {xs ys : List Nat} : (iN xs).map V.int ++ (iN ys).map V.int = (iN (xs ++ ys)).map V.int := by unfold iN; rw [List.map_append, List.map_append]
theorem iN_mem {xs : List Nat} {y : V} {i : Nat} (h : ((iN xs).map V.int)[i]? = some y) : ∃ n : Nat, y = .int (n : Nat) ∧ xs[i]? = some n := by
  unfold iN at h
  rw [List.getElem?_map, List.getElem?_map] at h
  cases hx : xs[i]? with
  | none => rw [hx] at h; cases h
  | some n => rw [hx] at h; exact ⟨n, (Option.some.inj h).symm, rfl⟩
structure GridAt (H : Hp) (T : Addr) (rs : List (Addr × List Nat)) (M B : Nat) : Prop where
  top : H T = some (.tup (rs.map fun x => .ref x.1))
  rows : ∀ x ∈ rs, H x.1 = some (.tup ((iN x.2).map V.int)) ∧ x.2.length = M ∧ ∀ e ∈ x.2, e < B
theorem GridAt.same {H H' : Hp} {T : Addr} {rs : List (Addr × List Nat)} {M B : Nat} (e : Same H H') (h : GridAt H T rs M B) : GridAt H' T rs M B :=
  ⟨e _ _ h.top, fun x hx => ⟨e _ _ (h.rows x hx).1, (h.rows x hx).2⟩⟩
def gr (rs : List (Addr × List Nat)) : List (List Nat) := rs.map fun x => x.2
theorem refs_at {rs : List (Addr × List Nat)} {j : Nat} (h : j < rs.length) : (rs.map fun x => V.ref x.1)[j]? = some (.ref rs[j].1) := by
  rw [List.getElem?_map, List.getElem?_eq_getElem h] <;> rfl
theorem gr_at {rs : List (Addr × List Nat)} {j : Nat} (h : j < rs.length) : (gr rs).getD j [] = rs[j].2 := by
  unfold gr
  rw [List.getD_eq_getElem?_getD, List.getElem?_map, List.getElem?_eq_getElem h] <;> rfl
theorem getD_at {xs : List Nat} {j : Nat} (h : j < xs.length) : xs[j]? = some (xs.getD j 0) := by
  rw [List.getD_eq_getElem?_getD, List.getElem?_eq_getElem h] <;> rfl
theorem getD_mem {xs : List Nat} {j : Nat} (h : j < xs.length) : xs.getD j 0 ∈ xs := by
  rw [List.getD_eq_getElem?_getD, List.getElem?_eq_getElem h]
  exact List.getElem_mem h
def fv (tb : List (List Nat)) (ns : List Nat) : Tr → Nat
  | .leaf n => ns.getD n 0
  | .node l r => (tb.getD (fv tb ns l) []).getD (fv tb ns r) 0
def sv (ds tb : List (List Nat)) (ns : List Nat) : Tr → Nat → List Nat
  | .leaf _, s => [s]
  | .node l r, s => sv ds tb ns l s ++ sv ds tb ns r ((ds.getD (fv tb ns l) []).getD s 0)
def Bel (ns : List Nat) (N : Nat) : Prop := ∀ n ∈ ns, n < N
theorem fv_lt {H : Hp} {T : Addr} {rs : List (Addr × List Nat)} {N : Nat} {ns : List Nat} (g : GridAt H T rs N N) (hl : rs.length = N) (hb : Bel ns N) : ∀ {t : Tr} {f : Nat}, IsRow t f → f + t.cnt ≤ ns.length → fv (gr rs) ns t < N
  | .leaf n, f, h, h2 => by
    have e : n = f := h
    subst e
    have h3 : n < ns.length := h2
    exact hb _ (getD_mem h3)
  | .node l r, f, h, h2 => by
    obtain ⟨h3, h4⟩ := h
    have h5 : f + (l.cnt + r.cnt) ≤ ns.length := h2
    have a := fv_lt g hl hb h3 (by omega)
    have b := fv_lt g hl hb h4 (by omega)
    show ((gr rs).getD _ []).getD _ 0 < N
    rw [gr_at (by omega)]
    obtain ⟨_, k1, k2⟩ := g.rows _ (List.getElem_mem (by omega : fv (gr rs) ns l < rs.length))
    exact k2 _ (getD_mem (by omega))
theorem sv_len {ds tb : List (List Nat)} {ns : List Nat} : ∀ {t : Tr} {s : Nat}, (sv ds tb ns t s).length = t.cnt
  | .leaf _, _ => rfl
  | .node l r, s => by
    show (sv ds tb ns l s ++ _).length = l.cnt + r.cnt
    rw [List.length_append, sv_len, sv_len]
theorem sv_in {H : Hp} {T D : Addr} {rs qs : List (Addr × List Nat)} {N S : Nat} {ns : List Nat} (g : GridAt H T rs N N) (hl : rs.length = N) (g2 : GridAt H D qs S S) (hl2 : qs.length = N) (hb : Bel ns N) : ∀ {t : Tr} {f s : Nat}, IsRow t f → f + t.cnt ≤ ns.length → s < S → Bel (sv (gr qs) (gr rs) ns t s) S
  | .leaf n, f, s, h, h2, h3 => by
    intro x hx
    cases List.mem_singleton.mp hx
    exact h3
  | .node l r, f, s, h, h2, h3 => by
    obtain ⟨h4, h5⟩ := h
    have h6 : f + (l.cnt + r.cnt) ≤ ns.length := h2
    have a := fv_lt g hl hb h4 (by omega)
    intro x hx
    rcases List.mem_append.mp hx with h | h
    · exact sv_in g hl g2 hl2 hb h4 (by omega) h3 x h
    · refine sv_in g hl g2 hl2 hb h5 (by omega) ?_ x h
      rw [gr_at (by omega)]
      obtain ⟨_, k1, k2⟩ := g2.rows _ (List.getElem_mem (by omega : fv (gr rs) ns l < qs.length))
      exact k2 _ (getD_mem (by omega))
theorem nat_sh {n : Nat} (h : n ≤ 1000) : Sh (.int (n : Nat)) 0 1921 := int_sh (by omega) (by omega)
theorem nats_sh {xs : List Nat} (h : Bel xs 1000) (hl : xs.length ≤ 60) : Sh (.tuple ((iN xs).map PyData.int)) 1 200000 := by
  refine Sh.tup (n := 0) (c := 1921) (j := 60) (fun x hx => ?_) (Nat.le_refl _) (by unfold iN; rw [List.length_map]; exact hl) (by decide)
  unfold iN at hx
  obtain ⟨n, hn, rfl⟩ := List.mem_map.mp hx
  exact nat_sh (Nat.le_of_lt (h n hn))
section
variable {P : Program} {w : World} {K : PySem.W.Frag} {mg : Str → Option Value} {base : Heap} (B : Bl K mg)
include B
/-! ### the program -/
def spIsWhole : Sp := fun vs H Q _ => ∃ i, vs = [.int i] ∧ Q (.bl true) H
theorem k_is_whole (D : Df K mg "is_whole" s_is_whole ["thing"]) : Dn P w K mg base 1 "is_whole" ["thing"] spIsWhole := by
  refine D.ok fun f fd F => okG0 F sc_is_whole (fun vs H Q E h => ?_) (fun cdv A outer s H vs Q E hr h => ⟨_, (pss_one (ps_ret (pe_and (pe_callB (kk (K := K) (F := rIsi) (P := CallR _ _) call_isi) (by rfl) B.isinstance_ (by decide +kernel) (pa_cons (pv 0) (pa_cons (pe_bltn (v := .ty "int") (u := .type "int") (by rfl) B.int_ (by decide +kernel) rfl) pa_nil))) (pe_one (pe_not (pe_callB (kk (K := K) (F := rIsi) (P := CallR _ _) call_isi) (by rfl) B.isinstance_ (by decide +kernel) (pa_cons (pv 0) (pa_cons (pe_bltn (v := .ty "bool") (u := .type "bool") (by rfl) B.bool_ (by decide +kernel) rfl) pa_nil)))))))), ?_⟩)
  · obtain ⟨i, rfl, _⟩ := h; rfl
  · obtain ⟨i, rfl, q⟩ := h
    refine ⟨_, rfl, _, _, _, _, _, rfl, .ty _, .base (.int _), kit_ty (b := "int") (r := true) (by decide +kernel), _, rfl, iteT ?_⟩
    refine ⟨_, rfl, _, _, _, _, _, rfl, .ty _, .base (.int _), kit_ty (b := "bool") (r := false) (by decide +kernel), _, rfl, ?_⟩
    exact q
def spIsWithin : Sp := fun vs H Q _ => ∃ i a b : Int, vs = [.int i, .int a, .int b] ∧ a ≤ i ∧ i ≤ b ∧ Q (.bl true) H
theorem k_is_within (D : Df K mg "is_within" s_is_within ["thing", "least", "most"]) (D_is_whole : Dn P w K mg base 1 "is_whole" ["thing"] spIsWhole) : Dn P w K mg base 2 "is_within" ["thing", "least", "most"] spIsWithin := by
  refine D.ok fun f fd F => okG0 F sc_is_within (fun vs H Q E h => ?_) (fun cdv A outer s H vs Q E hr h => ⟨_, (pss_one (ps_ret (pe_and (pe_cD D_is_whole (hr.less (by decide)) rfl (pa_cons (pv 0) pa_nil)) (pe_one (pe_chain op_le op_le (pv 1) (pv 0) (pv 2)))))), ?_⟩)
  · obtain ⟨i, a, b, rfl, _⟩ := h; rfl
  · obtain ⟨i, a, b, rfl, h1, h2, q⟩ := h
    refine ⟨_, rfl, i, rfl, _, rfl, iteT ?_⟩
    refine ⟨_, rfl, _, rfl, _, _, rfl, rfl, _, rfl, ifT (decide_eq_true h1) ⟨_, rfl, _, _, rfl, rfl, ?_⟩⟩
    exact (show Q (.bl (decide (i ≤ b))) H by rw [decide_eq_true h2]; exact q)
def spWantWithin : Sp := fun vs H Q _ => ∃ i a b : Int, vs = [.int i, .int a, .int b] ∧ a ≤ i ∧ i ≤ b ∧ Q .non H
theorem k_want_within (D : Df K mg "want_within" s_want_within ["thing", "least", "most"]) (D_is_within : Dn P w K mg base 2 "is_within" ["thing", "least", "most"] spIsWithin) : Dn P w K mg base 3 "want_within" ["thing", "least", "most"] spWantWithin := by
  refine D.ok fun f fd F => okG0 F sc_want_within (fun vs H Q E h => ?_) (fun cdv A outer s H vs Q E hr h => ⟨_, (pss_one (ps_if (pt_not (pt_val (pe_cD D_is_within (hr.less (by decide)) rfl (pa_cons (pv 0) (pa_cons (pv 1) (pa_cons (pv 2) pa_nil))))))
     (pss_one ps_never)
     pss_nil)), ?_⟩)
  · obtain ⟨i, a, b, rfl, _⟩ := h; rfl
  · obtain ⟨i, a, b, rfl, h1, h2, q⟩ := h
    exact ⟨_, rfl, _, rfl, _, rfl, i, a, b, rfl, h1, h2, _, rfl, iteF q⟩
def spWantMany : Sp := fun vs H Q _ => ∃ i : Int, vs = [.int i] ∧ 1 ≤ i ∧ i ≤ 40 ∧ Q .non H
theorem k_want_many (D : Df K mg "want_many" s_want_many ["many"]) (D_want_within : Dn P w K mg base 3 "want_within" ["thing", "least", "most"] spWantWithin) : Dn P w K mg base 4 "want_many" ["many"] spWantMany := by
  refine D.ok fun f fd F => okG0 F sc_want_many (fun vs H Q E h => ?_) (fun cdv A outer s H vs Q E hr h => ⟨_, (pss_one (ps_expr (pe_cD D_want_within (hr.less (by decide)) rfl (pa_cons (pv 0) (pa_cons pe_int (pa_cons (pe_glob (v := .int 40) (u := .int 40 B.MOST_DEEDS_.choose) (by rfl) B.MOST_DEEDS_.choose_spec ⟨_, rfl⟩) pa_nil)))))), ?_⟩)
  · obtain ⟨i, rfl, _⟩ := h; rfl
  · obtain ⟨i, rfl, h1, h2, q⟩ := h
    exact ⟨_, rfl, i, 1, 40, rfl, h1, h2, q⟩
def spIsTree : Sp := fun vs H Q _ => ∃ (v : V) (t : Tr) (m : Nat), vs = [v, .int m] ∧ TrAt H v t ∧ IsRow t 0 ∧ t.cnt = m ∧ m ≤ 40 ∧ ∀ H', Same H H' → Q (.bl true) H'
theorem k_is_tree (D : Df K mg "is_tree" s_is_tree ["thing", "many"]) (D_want_many : Dn P w K mg base 4 "want_many" ["many"] spWantMany) (D_is_whole : Dn P w K mg base 1 "is_whole" ["thing"] spIsWhole) : Dn P w K mg base 5 "is_tree" ["thing", "many"] spIsTree := by
  refine D.ok fun f fd F => okG0 F sc_is_tree (fun vs H Q E h => ?_) (fun cdv A outer s H vs Q E hr h => ⟨_, (pss_cons (ps_expr (pe_cD D_want_many (hr.less (by decide)) rfl (pa_cons (pv 1) pa_nil)))
    (pss_cons (ps_set (i := 2) sc_is_tree.nd rfl (Or.inl rfl) (pe_lst (pa_cons (pv 0) pa_nil)))
    (pss_cons (ps_set (i := 3) sc_is_tree.nd rfl (Or.inl rfl) pe_int)
    (pss_cons (ps_while PassesOwn.never (pt_cmpR (kk (K := K) (F := rNeD) (P := OpR _ _) (op_neD hr.units)) (pv 2) (pe_lst pa_nil) (nomark _))
      (pss_cons (ps_set (i := 4) sc_is_tree.nd rfl (Or.inl rfl) (kk (K := K) (F := fun K => tBM0 K "list" _ _) (P := PE _ _) (pe_bm0 PySem.F.plainAttrs_list PySem.F.slot_list_pop PySem.F.type_list_pop mt_pop (pv 2))))
      (pss_one (ps_if (pt_val (pe_callB (kk (K := K) (F := rIsi) (P := CallR _ _) call_isi) (by rfl) B.isinstance_ (by decide +kernel) (pa_cons (pv 4) (pa_cons (pe_bltn (v := .ty "tuple") (u := .type "tuple") (by rfl) B.tuple_ (by decide +kernel) rfl) pa_nil))))
       (pss_cons (ps_if (pt_cmpR op_ne (pe_callB (lenK (K := K)) (by rfl) B.len_ (by decide +kernel) (pa_cons (pv 4) pa_nil)) pe_int (nomark _))
         (pss_one (ps_ret pe_bl))
         pss_nil)
       (pss_one (ps_expr (kk (K := K) (F := fun K => tBM K "list" _ _ _) (P := PE _ _) (pe_bm PySem.F.plainAttrs_list PySem.F.slot_list_extend PySem.F.type_list_extend mt_extend (pv 2) (pa_cons (pe_lst (pa_cons (pe_ix (kk (K := K) (F := rIxT) (P := IxR _) ix_tup) (pv 4) pe_int (fun _ _ => rfl)) (pa_cons (pe_ix (kk (K := K) (F := rIxT) (P := IxR _) ix_tup) (pv 4) pe_int (fun _ _ => rfl)) pa_nil))) pa_nil))))))
       (pss_one (ps_if (PW.pt (pw_or (pt_not (pt_val (pe_cD D_is_whole (hr.less (by decide)) rfl (pa_cons (pv 4) pa_nil)))) (pw_or1 (pt_cmpR op_ne (pv 4) (pv 3) (nomark _)))))
        (pss_one (ps_ret pe_bl))
        (pss_one (ps_set (i := 3) sc_is_tree.nd rfl (Or.inl rfl) (pe_op op_add (pv 3) pe_int)))))))))
    (pss_one (ps_ret (pe_cmpR op_eq (pv 3) (pv 1) (nomark _)))))))), ?_⟩)
  · obtain ⟨v, t, m, rfl, _⟩ := h; rfl
  · obtain ⟨v, t, m, rfl, ht, hr, hc, h40, q⟩ := h
    have := t.cnt_pos
    refine ⟨_, rfl, m, rfl, by omega, by omega, _, rfl, sz, fun L hL => ?_⟩
    refine ⟨fun k σ H2 => ∃ (ts : List (V × Tr)) (c : Nat) (v4 : Option V), σ = [some v, some (.int m), some (.ref L), some (.int c), v4] ∧ Same H H2 ∧ H2 L = some (.lst (ts.reverse.map fun x => x.1)) ∧ (∀ x ∈ ts, TrAt H x.1 x.2 ∧ x.2.h ≤ 40 ∧ x.2.big ≤ 100) ∧ Rows (ts.map fun x => x.2) c m ∧ k = szs (ts.map fun x => x.2),
      ⟨_, [(v, t)], 0, none, rfl, same_new hL _, upd_same, fun x hx => ?_, ⟨hr, by rw [hc]; exact Nat.zero_add _⟩, rfl⟩, ?_⟩
    · cases List.mem_singleton.mp hx
      exact ⟨ht, Nat.le_trans t.h_cnt (by omega), Nat.le_trans hr.big (by omega)⟩
    rintro k σ H2 ⟨ts, c, v4, rfl, S2, hL2, hts, hrows, rfl⟩
    have hlen := rows_len hrows
    rw [List.length_map] at hlen
    refine ⟨_, rfl, sz, fun e he => ⟨.list (ts.reverse.map fun x => x.2.d), .list [], .lst (SqL.of ((same_new he _) _ _ hL2)) (dps fun x hx => ((hts x (List.mem_reverse.mp hx)).1.same (S2.trans (same_new he _))).dp), .lst (SqL.of upd_same) .nil, ?_, rfl, _, rfl, ?_⟩⟩
    · unfold SeqAt.shaped
      have h1 : PyData.depthAll (ts.reverse.map fun x => x.2.d) ≤ 50 := by
        exact depths fun x hx => (hts x (List.mem_reverse.mp hx)).2
      have h2 : PyData.canLayAll0 (ts.reverse.map fun x => x.2.d) = true := lays
      simp only [PyData.canLay0, h2, PyData.depth, Bool.true_and]
      exact decide_eq_true (by omega)
    rw [eqv_nil]
    cases ts with
    | nil =>
      cases (show c = m from hrows)
      refine iteF ⟨_, rfl, _, rfl, rfl, ?_⟩
      rw [dec_self]
      exact q _ (S2.trans (same_new he _))
    | cons x r =>
      obtain ⟨hx, hr2⟩ := hrows
      have hne : ((r.reverse ++ [x]).map fun x => x.2.d).isEmpty = false := by rw [List.map_append]; cases (r.reverse.map fun x : V × Tr => x.2.d) <;> rfl
      rw [List.reverse_cons] at hL2 ⊢
      rw [hne]
      refine ifT rfl ⟨fun σ' H' => ∃ m', m' < szs ((x :: r).map fun x => x.2) ∧ ∃ (ts : List (V × Tr)) (c : Nat) (v4 : Option V), σ' = [some v, some (.int m), some (.ref L), some (.int c), v4] ∧ Same H H' ∧ H' L = some (.lst (ts.reverse.map fun x => x.1)) ∧ (∀ x ∈ ts, TrAt H x.1 x.2 ∧ x.2.h ≤ 40 ∧ x.2.big ≤ 100) ∧ Rows (ts.map fun x => x.2) c m ∧ m' = szs (ts.map fun x => x.2), fun σ' H' h => h, ?_⟩
      have S3 := S2.trans (same_new he (.lst []))
      have nLe : L ≠ e := ne_of_none hL2 he
      refine ⟨_, rfl, .inl ⟨rfl, _, SqL.of (by rw [upd_ne nLe]; exact hL2)⟩, L, _, x.1, rfl, rfl, (by rw [upd_ne nLe]; exact hL2), by simp, ?_⟩
      have hdl : (List.map (fun x : V × Tr => x.1) (r.reverse ++ [x])).dropLast = r.reverse.map fun x => x.1 := by rw [List.map_append]; exact List.dropLast_concat
      rw [hdl]
      have hr0 : ∀ y ∈ r, TrAt H y.1 y.2 ∧ y.2.h ≤ 40 ∧ y.2.big ≤ 100 := fun y hy => hts y (List.mem_cons_of_mem _ hy)
      obtain ⟨hx0, hh, hb⟩ := hts x List.mem_cons_self
      obtain ⟨xv, xt⟩ := x
      generalize eH : upd (upd H2 e (.lst [])) L (.lst (r.reverse.map fun x => x.1)) = H3
      have S4 : Same H H3 := by rw [← eH]; exact fun a o ha => by rw [upd_ne (ne_of_none ha hL)]; exact S3 _ _ ha
      have hL3 : H3 L = some (.lst (r.reverse.map fun x => x.1)) := by rw [← eH]; exact upd_same
      cases xt with
      | leaf n =>
        cases (show xv = V.int n from hx0)
        have e : n = c := hx
        subst e
        refine ⟨_, rfl, _, _, _, _, _, rfl, .ty _, .base (.int _), kit_ty (b := "tuple") (r := false) (by decide +kernel), _, rfl, iteF ?_⟩
        refine ⟨_, rfl, _, rfl, _, rfl, iteF ⟨_, rfl, _, rfl, rfl, _, rfl, ifF (dec_ne rfl) ⟨_, rfl, _, _, rfl, rfl, ?_⟩⟩⟩
        exact ⟨_, (by show szs (r.map fun x => x.2) < 1 + szs (r.map fun x => x.2); omega), r, n + 1, _, rfl, S4, hL3, hr0, hr2, rfl⟩
      | node l rr =>
        obtain ⟨a, x1, y1, hxv, ha, hx1, hy1⟩ := hx0
        cases (show xv = V.ref a from hxv)
        have hh' : max l.h rr.h + 1 ≤ 40 := hh
        have hb' : max l.big rr.big ≤ 100 := hb
        refine ⟨_, rfl, _, _, _, _, _, rfl, .ty _, .base (.tup (S4 _ _ ha)), kit_ty (b := "tuple") (r := true) (by decide +kernel), _, rfl, iteT ?_⟩
        refine ⟨_, rfl, a, _, rfl, .inr (SqT.of (S4 _ _ ha)), rfl, _, rfl, iteF ?_⟩
        refine ⟨_, rfl, .inl ⟨rfl, _, SqL.of hL3⟩, _, rfl, a, _, _, _, rfl, rfl, SqT.of (S4 _ _ ha), at_of (j := 1) rfl rfl, _, rfl, a, _, _, _, rfl, rfl, SqT.of (S4 _ _ ha), at_of (j := 0) rfl rfl, sz, fun b hb => ?_⟩
        have nLb : L ≠ b := ne_of_none hL3 hb
        refine ⟨L, b, _, _, rfl, rfl, by rw [upd_ne nLb]; exact hL3, upd_same, small (by rw [List.length_map, List.length_reverse]; have : r.length + 1 + c ≤ m := hlen; show r.length + 2 ≤ 1000; omega), ?_⟩
        refine ⟨_, ?_, (x1, l) :: (y1, rr) :: r, c, _, rfl, ?_, ?_, ?_, ?_, rfl⟩
        · show l.sz + (rr.sz + szs _) < (l.sz + rr.sz + 1) + szs _
          omega
        · exact fun a o h => by rw [upd_ne (ne_of_none h hL)]; exact (S4.trans (same_new hb _)) _ _ h
        · rw [upd_same, List.reverse_cons, List.reverse_cons, List.append_assoc, List.map_append] <;> rfl
        · intro z hz
          rcases List.mem_cons.mp hz with rfl | hz
          · exact ⟨hx1, by show l.h ≤ 40; omega, by show l.big ≤ 100; omega⟩
          rcases List.mem_cons.mp hz with rfl | hz
          · exact ⟨hy1, by show rr.h ≤ 40; omega, by show rr.big ≤ 100; omega⟩
          · exact hr0 z hz
        · obtain ⟨g1, g2⟩ := hx
          exact ⟨g1, g2, by show Rows _ (c + l.cnt + rr.cnt) m; rw [Nat.add_assoc]; exact hr2⟩
/-! ### the program: tables, families -/
def spAreNums (K : PySem.W.Frag) : Sp := fun vs H Q _ => ∃ (T : Addr) (xs : List Nat) (N : Nat), vs = [.ref T, .int N] ∧ H T = some (.tup ((iN xs).map V.int)) ∧ Bel xs N ∧ xs.length ≤ 100 ∧ ∀ H', Same H H' → Q (.bl true) H'
theorem k_are_numbers (D : Df K mg "are_numbers" s_are_numbers ["thing", "many"]) (D_is_whole : Dn P w K mg base 1 "is_whole" ["thing"] spIsWhole) : Dn P w K mg base 2 "are_numbers" ["thing", "many"] (spAreNums K) := by
  refine D.ok fun f fd F => okG0 F sc_are_numbers (fun vs H Q E h => ?_) (fun cdv A outer s H vs Q E hr h => ⟨_, (pss_one (ps_ret (pe_and (pe_callB (kk (K := K) (F := rIsi) (P := CallR _ _) call_isi) (by rfl) B.isinstance_ (by decide +kernel) (pa_cons (pv 0) (pa_cons (pe_bltn (v := .ty "tuple") (u := .type "tuple") (by rfl) B.tuple_ (by decide +kernel) rfl) pa_nil))) (pe_one (pe_callB (kk (K := K) (F := rAll) (P := CallR _ _) (cr_all rfl)) (by rfl) B.all_ (by decide +kernel) (pa_cons (pe_lc (own := [("number", 2)]) (g := gName 2) (tt := tYes) rfl sc_are_numbers.nd (kk (K := K) (F := fun K => iTup K _) (P := PI _ _ _) (pi_tup (pv 0))) (blkOk_by (own := [("number", 2)]) (N := ["thing", "many", "number"]) (sc := defScope s_are_numbers) (by decide +kernel)) (fun _ _ _ _ _ => (pg_name (i := 2) sc_are_numbers.nd rfl (Or.inl rfl))) (fun _ _ _ _ _ => pts_nil) (fun _ _ _ _ _ => (pe_and (pe_cD D_is_whole (hr.less (by decide)) rfl (pa_cons (pv 2) pa_nil)) (pe_one (pe_chain op_le op_lt pe_int (pv 2) (pv 1)))))) pa_nil)))))), ?_⟩)
  · obtain ⟨T, xs, N, rfl, _⟩ := h; rfl
  · obtain ⟨T, xs, N, rfl, hT, hb, hl, q⟩ := h
    refine ⟨_, rfl, _, _, _, _, _, rfl, .ty _, .base (.tup hT), kit_ty (b := "tuple") (r := true) (by decide +kernel), _, rfl, iteT ?_⟩
    refine ⟨_, rfl, T, rfl, ⟨_, SqT.of hT⟩, fun D hD => ?_⟩
    refine lc_tup (K := K) (a := T) (xs := (iN xs).map V.int) (fun i H2 => Same H H2 ∧ H2 D = some (.lst ((List.replicate i true).map V.bl))) ⟨same_new hD _, upd_same⟩ (fun i H2 _ h => SqT.of (h.1 _ _ hT)) ?_ ?_
    · rintro i y H2 hi ⟨S2, hD2⟩
      obtain ⟨n, rfl, hn⟩ := iN_mem hi
      have hil := (List.getElem?_eq_some_iff.mp hn).1
      have hlt := hb n (List.mem_of_getElem? hn)
      refine ⟨rfl, _, rfl, (n : Int), rfl, _, rfl, iteT ?_⟩
      refine ⟨_, rfl, _, _, rfl, rfl, _, rfl, ifT (decide_eq_true (by omega)) ⟨_, rfl, _, _, rfl, rfl, ?_⟩⟩
      dsimp only
      rw [decide_eq_true (show (n : Int) < (N : Int) by omega)]
      exact ⟨_, hD2, by rw [rep_len]; exact small1000 (by omega), but_same hD S2 But.upd, by rw [upd_same, rep_snoc]⟩
    · rintro H2 ⟨S2, hD2⟩
      refine ⟨D, _, rfl, SqL.of hD2, ?_⟩
      rw [rep_all]
      exact q _ S2
def spIsTable (K : PySem.W.Frag) : Sp := fun vs H Q _ => ∃ (T : Addr) (rs : List (Addr × List Nat)) (N : Nat), vs = [.ref T] ∧ GridAt H T rs N N ∧ rs.length = N ∧ 1 ≤ N ∧ N ≤ 60 ∧ ∀ H', Same H H' → Q (.bl true) H'
theorem k_is_table (D : Df K mg "is_table" s_is_table ["thing"]) (D_are_numbers : Dn P w K mg base 2 "are_numbers" ["thing", "many"] (spAreNums K)) : Dn P w K mg base 3 "is_table" ["thing"] (spIsTable K) := by
  refine D.ok fun f fd F => okG0 F sc_is_table (fun vs H Q E h => ?_) (fun cdv A outer s H vs Q E hr h => ⟨_, (pss_cons (ps_if (PW.pt (pw_or (pt_not (pt_val (pe_callB (kk (K := K) (F := rIsi) (P := CallR _ _) call_isi) (by rfl) B.isinstance_ (by decide +kernel) (pa_cons (pv 0) (pa_cons (pe_bltn (v := .ty "tuple") (u := .type "tuple") (by rfl) B.tuple_ (by decide +kernel) rfl) pa_nil))))) (pw_or1 (pt_not (pt_chain op_le op_le pe_int (pe_callB (lenK (K := K)) (by rfl) B.len_ (by decide +kernel) (pa_cons (pv 0) pa_nil)) (pe_glob (v := .int 60) (u := .int 60 B.MOST_FAMILY_.choose) (by rfl) B.MOST_FAMILY_.choose_spec ⟨_, rfl⟩))))))
      (pss_one (ps_ret pe_bl))
      pss_nil)
    (pss_one (ps_ret (pe_callB (kk (K := K) (F := rAll) (P := CallR _ _) (cr_all rfl)) (by rfl) B.all_ (by decide +kernel) (pa_cons (pe_lc (own := [("row", 1)]) (g := gName 1) (tt := tYes) rfl sc_is_table.nd (kk (K := K) (F := fun K => iTup K _) (P := PI _ _ _) (pi_tup (pv 0))) (blkOk_by (own := [("row", 1)]) (N := ["thing", "row"]) (sc := defScope s_is_table) (by decide +kernel)) (fun _ _ _ _ _ => (pg_name (i := 1) sc_is_table.nd rfl (Or.inl rfl))) (fun _ _ _ _ _ => pts_nil) (fun _ _ _ _ _ => (pe_and (pe_cD D_are_numbers (hr.less (by decide)) rfl (pa_cons (pv 1) (pa_cons (pe_callB (lenK (K := K)) (by rfl) B.len_ (by decide +kernel) (pa_cons (pv 0) pa_nil)) pa_nil))) (pe_one (pe_cmpR op_eq (pe_callB (lenK (K := K)) (by rfl) B.len_ (by decide +kernel) (pa_cons (pv 1) pa_nil)) (pe_callB (lenK (K := K)) (by rfl) B.len_ (by decide +kernel) (pa_cons (pv 0) pa_nil)) (nomark _)))))) pa_nil))))), ?_⟩)
  · obtain ⟨T, rs, N, rfl, _⟩ := h; rfl
  · obtain ⟨T, rs, N, rfl, g, hl, h1, h60, q⟩ := h
    refine ⟨_, rfl, _, _, _, _, _, rfl, .ty _, .base (.tup g.top), kit_ty (b := "tuple") (r := true) (by decide +kernel), _, rfl, iteF ?_⟩
    refine ⟨_, rfl, T, _, rfl, .inr (SqT.of g.top), ?_⟩
    refine ⟨_, _, rfl, rfl, _, rfl, ifT (decide_eq_true (by rw [List.length_map]; omega)) ⟨_, _, rfl, rfl, _, rfl, ifF (by rw [List.length_map, decide_eq_true (by omega)] <;> rfl) ?_⟩⟩
    refine ⟨_, rfl, T, rfl, ⟨_, SqT.of g.top⟩, fun D hD => ?_⟩
    refine lc_tup (K := K) (a := T) (xs := rs.map fun x => .ref x.1) (fun i H2 => Same H H2 ∧ H2 D = some (.lst ((List.replicate i true).map V.bl))) ⟨same_new hD _, upd_same⟩ (fun i H2 _ h => SqT.of (h.1 _ _ g.top)) ?_ ?_
    · rintro i y H2 hi ⟨S2, hD2⟩
      rw [List.getElem?_map] at hi
      obtain ⟨x, hx, rfl⟩ := Option.map_eq_some_iff.mp hi
      have hil : i < rs.length := (List.getElem?_eq_some_iff.mp hx).1
      obtain ⟨k1, k2, k3⟩ := g.rows x (List.mem_of_getElem? hx)
      refine ⟨rfl, _, rfl, _, rfl, T, _, rfl, .inr (SqT.of (S2 _ _ g.top)), x.1, x.2, N, by rw [List.length_map, hl] <;> rfl, S2 _ _ k1, k3, by omega, fun H3 S3 => ⟨_, rfl, iteT ?_⟩⟩
      refine ⟨_, rfl, x.1, _, rfl, .inr (SqT.of (S3 _ _ (S2 _ _ k1))), _, rfl, T, _, rfl, .inr (SqT.of (S3 _ _ (S2 _ _ g.top))), rfl, ?_⟩
      dsimp only
      rw [iN_len, List.length_map, k2, hl, dec_self]
      exact ⟨_, S3 _ _ hD2, by rw [rep_len]; exact small1000 (by omega), but_same hD (S2.trans S3) But.upd, by rw [upd_same, rep_snoc]⟩
    · rintro H2 ⟨S2, hD2⟩
      refine ⟨D, _, rfl, SqL.of hD2, ?_⟩
      rw [rep_all]
      exact q _ S2
def spWantTable (K : PySem.W.Frag) : Sp := fun vs H Q _ => ∃ (T : Addr) (rs : List (Addr × List Nat)) (N : Nat), vs = [.ref T] ∧ GridAt H T rs N N ∧ rs.length = N ∧ 1 ≤ N ∧ N ≤ 60 ∧ ∀ H', Same H H' → Q .non H'
theorem k_want_table (D : Df K mg "want_table" s_want_table ["table"]) (D_is_table : Dn P w K mg base 3 "is_table" ["thing"] (spIsTable K)) : Dn P w K mg base 4 "want_table" ["table"] (spWantTable K) := by
  refine D.ok fun f fd F => okG0 F sc_want_table (fun vs H Q E h => ?_) (fun cdv A outer s H vs Q E hr h => ⟨_, (pss_one (ps_if (pt_not (pt_val (pe_cD D_is_table (hr.less (by decide)) rfl (pa_cons (pv 0) pa_nil))))
     (pss_one ps_never)
     pss_nil)), ?_⟩)
  · obtain ⟨T, rs, N, rfl, _⟩ := h; rfl
  · obtain ⟨T, rs, N, rfl, h1, h2, h3, h4, q⟩ := h
    exact ⟨_, rfl, T, rs, N, rfl, h1, h2, h3, h4, fun H' S => ⟨_, rfl, iteF (q _ S)⟩⟩
def spIsByTable (K : PySem.W.Frag) : Sp := fun vs H Q _ => ∃ (T : Addr) (xs : List Nat) (N : Nat), vs = [.ref T, .int N] ∧ H T = some (.tup ((iN xs).map V.int)) ∧ Bel xs N ∧ xs.length = N ∧ N ≤ 100 ∧ ∀ H', Same H H' → Q (.bl true) H'
theorem k_is_by_table (D : Df K mg "is_by_table" s_is_by_table ["thing", "states"]) (D_is_whole : Dn P w K mg base 1 "is_whole" ["thing"] spIsWhole) : Dn P w K mg base 2 "is_by_table" ["thing", "states"] (spIsByTable K) := by
  refine D.ok fun f fd F => okG0 F sc_is_by_table (fun vs H Q E h => ?_) (fun cdv A outer s H vs Q E hr h => ⟨_, (pss_cons (ps_if (PW.pt (pw_or (pt_not (pt_val (pe_callB (kk (K := K) (F := rIsi) (P := CallR _ _) call_isi) (by rfl) B.isinstance_ (by decide +kernel) (pa_cons (pv 0) (pa_cons (pe_bltn (v := .ty "tuple") (u := .type "tuple") (by rfl) B.tuple_ (by decide +kernel) rfl) pa_nil))))) (pw_or1 (pt_cmpR op_ne (pe_callB (lenK (K := K)) (by rfl) B.len_ (by decide +kernel) (pa_cons (pv 0) pa_nil)) (pv 1) (nomark _)))))
      (pss_one (ps_ret pe_bl))
      pss_nil)
    (pss_one (ps_ret (pe_callB (kk (K := K) (F := rAll) (P := CallR _ _) (cr_all rfl)) (by rfl) B.all_ (by decide +kernel) (pa_cons (pe_lc (own := [("state", 2)]) (g := gName 2) (tt := tYes) rfl sc_is_by_table.nd (kk (K := K) (F := fun K => iTup K _) (P := PI _ _ _) (pi_tup (pv 0))) (blkOk_by (own := [("state", 2)]) (N := ["thing", "states", "state"]) (sc := defScope s_is_by_table) (by decide +kernel)) (fun _ _ _ _ _ => (pg_name (i := 2) sc_is_by_table.nd rfl (Or.inl rfl))) (fun _ _ _ _ _ => pts_nil) (fun _ _ _ _ _ => (pe_and (pe_cD D_is_whole (hr.less (by decide)) rfl (pa_cons (pv 2) pa_nil)) (pe_one (pe_chain op_le op_lt pe_int (pv 2) (pv 1)))))) pa_nil))))), ?_⟩)
  · obtain ⟨T, xs, N, rfl, _⟩ := h; rfl
  · obtain ⟨T, xs, N, rfl, hT, hb, hl, h100, q⟩ := h
    refine ⟨_, rfl, _, _, _, _, _, rfl, .ty _, .base (.tup hT), kit_ty (b := "tuple") (r := true) (by decide +kernel), _, rfl, iteF ?_⟩
    refine ⟨_, rfl, T, _, rfl, .inr (SqT.of hT), _, rfl, rfl, _, rfl, ifF (dec_ne (by rw [iN_len, hl])) ?_⟩
    refine ⟨_, rfl, T, rfl, ⟨_, SqT.of hT⟩, fun D hD => ?_⟩
    refine lc_tup (K := K) (a := T) (xs := (iN xs).map V.int) (fun i H2 => Same H H2 ∧ H2 D = some (.lst ((List.replicate i true).map V.bl))) ⟨same_new hD _, upd_same⟩ (fun i H2 _ h => SqT.of (h.1 _ _ hT)) ?_ ?_
    · rintro i y H2 hi ⟨S2, hD2⟩
      obtain ⟨n, rfl, hn⟩ := iN_mem hi
      have hil := (List.getElem?_eq_some_iff.mp hn).1
      have hlt := hb n (List.mem_of_getElem? hn)
      refine ⟨rfl, _, rfl, (n : Int), rfl, _, rfl, iteT ?_⟩
      refine ⟨_, rfl, _, _, rfl, rfl, _, rfl, ifT (decide_eq_true (by omega)) ⟨_, rfl, _, _, rfl, rfl, ?_⟩⟩
      dsimp only
      rw [decide_eq_true (show (n : Int) < (N : Int) by omega)]
      exact ⟨_, hD2, by rw [rep_len]; exact small1000 (by omega), but_same hD S2 But.upd, by rw [upd_same, rep_snoc]⟩
    · rintro H2 ⟨S2, hD2⟩
      refine ⟨D, _, rfl, SqL.of hD2, ?_⟩
      rw [rep_all]
      exact q _ S2
def spAreByTable (K : PySem.W.Frag) : Sp := fun vs H Q _ => ∃ (T : Addr) (rs : List (Addr × List Nat)) (S most : Nat), vs = [.ref T, .int most] ∧ GridAt H T rs S S ∧ 1 ≤ rs.length ∧ rs.length ≤ most ∧ most ≤ 60 ∧ 1 ≤ S ∧ S ≤ 5 ∧ ∀ H', Same H H' → Q (.bl true) H'
theorem k_are_by_table (D : Df K mg "are_by_table" s_are_by_table ["thing", "most"]) (D_is_by_table : Dn P w K mg base 2 "is_by_table" ["thing", "states"] (spIsByTable K)) : Dn P w K mg base 3 "are_by_table" ["thing", "most"] (spAreByTable K) := by
  refine D.ok fun f fd F => okG0 F sc_are_by_table (fun vs H Q E h => ?_) (fun cdv A outer s H vs Q E hr h => ⟨_, (pss_cons (ps_if (PW.pt (pw_or (pt_not (pt_val (pe_callB (kk (K := K) (F := rIsi) (P := CallR _ _) call_isi) (by rfl) B.isinstance_ (by decide +kernel) (pa_cons (pv 0) (pa_cons (pe_bltn (v := .ty "tuple") (u := .type "tuple") (by rfl) B.tuple_ (by decide +kernel) rfl) pa_nil))))) (pw_or (pt_not (pt_chain op_le op_le pe_int (pe_callB (lenK (K := K)) (by rfl) B.len_ (by decide +kernel) (pa_cons (pv 0) pa_nil)) (pv 1))) (pw_or1 (pt_not (pt_val (pe_callB (kk (K := K) (F := rIsi) (P := CallR _ _) call_isi) (by rfl) B.isinstance_ (by decide +kernel) (pa_cons (pe_ix (kk (K := K) (F := rIxT) (P := IxR _) ix_tup) (pv 0) pe_int (fun _ _ => rfl)) (pa_cons (pe_bltn (v := .ty "tuple") (u := .type "tuple") (by rfl) B.tuple_ (by decide +kernel) rfl) pa_nil)))))))))
      (pss_one (ps_ret pe_bl))
      pss_nil)
    (pss_cons (ps_set (i := 2) sc_are_by_table.nd rfl (Or.inr rfl) (pe_callB (lenK (K := K)) (by rfl) B.len_ (by decide +kernel) (pa_cons (pe_ix (kk (K := K) (F := rIxT) (P := IxR _) ix_tup) (pv 0) pe_int (fun _ _ => rfl)) pa_nil)))
    (pss_one (ps_ret (pe_and (pe_chain op_le op_le pe_int (pv 2) (pe_glob (v := .int 5) (u := .int 5 B.MOST_STATES_.choose) (by rfl) B.MOST_STATES_.choose_spec ⟨_, rfl⟩)) (pe_one (pe_callB (kk (K := K) (F := rAll) (P := CallR _ _) (cr_all rfl)) (by rfl) B.all_ (by decide +kernel) (pa_cons (pe_lc (own := [("deed", 3)]) (g := gName 3) (tt := tYes) rfl sc_are_by_table.nd (kk (K := K) (F := fun K => iTup K _) (P := PI _ _ _) (pi_tup (pv 0))) (blkOk_by (own := [("deed", 3)]) (N := ["thing", "most", "states", "deed"]) (sc := defScope s_are_by_table) (by decide +kernel)) (fun _ _ _ _ _ => (pg_name (i := 3) sc_are_by_table.nd rfl (Or.inl rfl))) (fun _ _ _ _ _ => pts_nil) (fun _ _ _ _ _ => (pe_cD D_is_by_table (hr.less (by decide)) rfl (pa_cons (pv 3) (pa_cons (pv 2) pa_nil))))) pa_nil)))))))), ?_⟩)
  · obtain ⟨T, rs, S, most, rfl, _⟩ := h; rfl
  · obtain ⟨T, rs, S, most, rfl, g, h1, hm, h60, s1, s5, q⟩ := h
    obtain ⟨k1, k2, k3⟩ := g.rows rs[0] (List.getElem_mem (by omega))
    refine ⟨_, rfl, _, _, _, _, _, rfl, .ty _, .base (.tup g.top), kit_ty (b := "tuple") (r := true) (by decide +kernel), _, rfl, iteF ?_⟩
    refine ⟨_, rfl, T, _, rfl, .inr (SqT.of g.top), ?_⟩
    refine ⟨_, _, rfl, rfl, _, rfl, ifT (decide_eq_true (by rw [List.length_map]; omega)) ⟨_, rfl, _, _, rfl, rfl, _, rfl, ifF (by rw [List.length_map, decide_eq_true (by omega)] <;> rfl) ?_⟩⟩
    refine ⟨_, rfl, T, _, _, _, rfl, rfl, SqT.of g.top, at_of (j := 0) rfl (refs_at (by omega)), _, _, _, _, _, rfl, .ty _, .base (.tup k1), kit_ty (b := "tuple") (r := true) (by decide +kernel), _, rfl, iteF ?_⟩
    refine ⟨_, rfl, T, _, _, _, rfl, rfl, SqT.of g.top, at_of (j := 0) rfl (refs_at (by omega)), rs[0].1, _, rfl, .inr (SqT.of k1), ?_⟩
    refine ⟨_, rfl, _, _, rfl, rfl, _, rfl, ifT (decide_eq_true (by rw [iN_len]; omega)) ⟨_, _, rfl, rfl, _, rfl, ifT (decide_eq_true (by rw [iN_len]; omega)) ?_⟩⟩
    refine ⟨_, rfl, T, rfl, ⟨_, SqT.of g.top⟩, fun D hD => ?_⟩
    refine lc_tup (K := K) (a := T) (xs := rs.map fun x => .ref x.1) (fun i H2 => Same H H2 ∧ H2 D = some (.lst ((List.replicate i true).map V.bl))) ⟨same_new hD _, upd_same⟩ (fun i H2 _ h => SqT.of (h.1 _ _ g.top)) ?_ ?_
    · rintro i y H2 hi ⟨S2, hD2⟩
      rw [List.getElem?_map] at hi
      obtain ⟨x, hx, rfl⟩ := Option.map_eq_some_iff.mp hi
      have hil : i < rs.length := (List.getElem?_eq_some_iff.mp hx).1
      obtain ⟨j1, j2, j3⟩ := g.rows x (List.mem_of_getElem? hx)
      refine ⟨rfl, _, rfl, _, rfl, x.1, x.2, S, by rw [iN_len, k2] <;> rfl, S2 _ _ j1, j3, j2, by omega, fun H3 S3 => ?_⟩
      exact ⟨_, S3 _ _ hD2, by rw [rep_len]; exact small1000 (by omega), but_same hD (S2.trans S3) But.upd, by rw [upd_same, rep_snoc]⟩
    · rintro H2 ⟨S2, hD2⟩
      refine ⟨D, _, rfl, SqL.of hD2, ?_⟩
      rw [rep_all]
      exact q _ S2
def spWantBy (K : PySem.W.Frag) : Sp := fun vs H Q _ => ∃ (D T : Addr) (qs rs : List (Addr × List Nat)) (N S : Nat), vs = [.ref D, .ref T] ∧ GridAt H T rs N N ∧ rs.length = N ∧ 1 ≤ N ∧ N ≤ 60 ∧ GridAt H D qs S S ∧ qs.length = N ∧ 1 ≤ S ∧ S ≤ 5 ∧ ∀ H', Same H H' → Q .non H'
theorem k_want_by_table (D : Df K mg "want_by_table" s_want_by_table ["deeds", "table"]) (D_want_table : Dn P w K mg base 4 "want_table" ["table"] (spWantTable K)) (D_are_by_table : Dn P w K mg base 3 "are_by_table" ["thing", "most"] (spAreByTable K)) : Dn P w K mg base 5 "want_by_table" ["deeds", "table"] (spWantBy K) := by
  refine D.ok fun f fd F => okG0 F sc_want_by_table (fun vs H Q E h => ?_) (fun cdv A outer s H vs Q E hr h => ⟨_, (pss_cons (ps_expr (pe_cD D_want_table (hr.less (by decide)) rfl (pa_cons (pv 1) pa_nil)))
    (pss_one (ps_if (PW.pt (pw_or (pt_not (pt_val (pe_cD D_are_by_table (hr.less (by decide)) rfl (pa_cons (pv 0) (pa_cons (pe_glob (v := .int 60) (u := .int 60 B.MOST_FAMILY_.choose) (by rfl) B.MOST_FAMILY_.choose_spec ⟨_, rfl⟩) pa_nil))))) (pw_or1 (pt_cmpR op_ne (pe_callB (lenK (K := K)) (by rfl) B.len_ (by decide +kernel) (pa_cons (pv 0) pa_nil)) (pe_callB (lenK (K := K)) (by rfl) B.len_ (by decide +kernel) (pa_cons (pv 1) pa_nil)) (nomark _)))))
     (pss_one ps_never)
     pss_nil))), ?_⟩)
  · obtain ⟨D, T, qs, rs, N, S, rfl, _⟩ := h; rfl
  · obtain ⟨D, T, qs, rs, N, S, rfl, g, h1, h2, h3, g2, h4, h5, h6, q⟩ := h
    refine ⟨_, rfl, T, rs, N, rfl, g, h1, h2, h3, fun H1 S1 => ?_⟩
    refine ⟨_, rfl, D, qs, S, 60, rfl, g2.same S1, by omega, by omega, by decide, h5, h6, fun H2 S2 => ⟨_, rfl, iteF ?_⟩⟩
    have S12 := S1.trans S2
    exact ⟨_, rfl, D, _, rfl, .inr (SqT.of (S12 _ _ g2.top)), _, rfl, T, _, rfl, .inr (SqT.of (S12 _ _ g.top)), rfl, _, rfl, ifF (dec_ne (by rw [List.length_map, List.length_map, h1, h4])) (q _ S12)⟩
def spWantNums (K : PySem.W.Frag) : Sp := fun vs H Q _ => ∃ (T U : Addr) (rs : List (Addr × List Nat)) (N : Nat) (ns : List Nat), vs = [.ref T, .ref U] ∧ GridAt H T rs N N ∧ rs.length = N ∧ H U = some (.tup ((iN ns).map V.int)) ∧ Bel ns N ∧ 1 ≤ ns.length ∧ ns.length ≤ 40 ∧ ∀ H', Same H H' → Q .non H'
theorem k_want_numbers (D : Df K mg "want_numbers" s_want_numbers ["table", "numbers"]) (D_are_numbers : Dn P w K mg base 2 "are_numbers" ["thing", "many"] (spAreNums K)) : Dn P w K mg base 3 "want_numbers" ["table", "numbers"] (spWantNums K) := by
  refine D.ok fun f fd F => okG0 F sc_want_numbers (fun vs H Q E h => ?_) (fun cdv A outer s H vs Q E hr h => ⟨_, (pss_one (ps_if (PW.pt (pw_or (pt_not (pt_val (pe_cD D_are_numbers (hr.less (by decide)) rfl (pa_cons (pv 1) (pa_cons (pe_callB (lenK (K := K)) (by rfl) B.len_ (by decide +kernel) (pa_cons (pv 0) pa_nil)) pa_nil))))) (pw_or1 (pt_not (pt_chain op_le op_le pe_int (pe_callB (lenK (K := K)) (by rfl) B.len_ (by decide +kernel) (pa_cons (pv 1) pa_nil)) (pe_glob (v := .int 40) (u := .int 40 B.MOST_NUMBERS_.choose) (by rfl) B.MOST_NUMBERS_.choose_spec ⟨_, rfl⟩))))))
     (pss_one ps_never)
     pss_nil)), ?_⟩)
  · obtain ⟨T, U, rs, N, ns, rfl, _⟩ := h; rfl
  · obtain ⟨T, U, rs, N, ns, rfl, g, hl, hU, hb, h1, h40, q⟩ := h
    refine ⟨_, rfl, _, rfl, T, _, rfl, .inr (SqT.of g.top), U, ns, N, by rw [List.length_map, hl] <;> rfl, hU, hb, by omega, fun H1 S1 => ⟨_, rfl, iteF ?_⟩⟩
    refine ⟨_, rfl, U, _, rfl, .inr (SqT.of (S1 _ _ hU)), ?_⟩
    exact ⟨_, _, rfl, rfl, _, rfl, ifT (decide_eq_true (by rw [iN_len]; omega)) ⟨_, _, rfl, rfl, _, rfl, ifF (by rw [iN_len, decide_eq_true (by omega)] <;> rfl) (q _ S1)⟩⟩
def spGrouped (K : PySem.W.Frag) : Sp := fun vs H Q _ => ∃ (U : Addr) (ns : List Nat) (v : V) (t : Tr), vs = [.ref U, v] ∧ H U = some (.tup ((iN ns).map V.int)) ∧ TrAt H v t ∧ IsRow t 0 ∧ t.cnt = ns.length ∧ ns.length ≤ 40 ∧ ∀ H', Same H H' → Q .non H'
theorem k_want_grouped (D : Df K mg "want_grouped" s_want_grouped ["numbers", "tree"]) (D_is_tree : Dn P w K mg base 5 "is_tree" ["thing", "many"] spIsTree) : Dn P w K mg base 6 "want_grouped" ["numbers", "tree"] (spGrouped K) := by
  refine D.ok fun f fd F => okG0 F sc_want_grouped (fun vs H Q E h => ?_) (fun cdv A outer s H vs Q E hr h => ⟨_, (pss_one (ps_if (pt_not (pt_val (pe_cD D_is_tree (hr.less (by decide)) rfl (pa_cons (pv 1) (pa_cons (pe_callB (lenK (K := K)) (by rfl) B.len_ (by decide +kernel) (pa_cons (pv 0) pa_nil)) pa_nil)))))
     (pss_one ps_never)
     pss_nil)), ?_⟩)
  · obtain ⟨U, ns, v, t, rfl, _⟩ := h; rfl
  · obtain ⟨U, ns, v, t, rfl, hU, ht, hr, hc, h40, q⟩ := h
    exact ⟨_, rfl, _, rfl, U, _, rfl, .inr (SqT.of hU), v, t, ns.length, by rw [iN_len] <;> rfl, ht, hr, hc, h40, fun H' S => ⟨_, rfl, iteF (q _ S)⟩⟩
def spFold6 (K : PySem.W.Frag) (n : Nat) : Sp := fun vs H Q _ => ∃ (T U : Addr) (rs : List (Addr × List Nat)) (N : Nat) (ns : List Nat) (v : V) (t : Tr) (f : Nat), vs = [.ref T, .ref U, v] ∧ GridAt H T rs N N ∧ rs.length = N ∧ H U = some (.tup ((iN ns).map V.int)) ∧ Bel ns N ∧ TrAt H v t ∧ IsRow t f ∧ f + t.cnt ≤ ns.length ∧ t.h ≤ n ∧ Q (.int ((fv (gr rs) ns t : Nat) : Int)) H
theorem fold_z (vs : List V) (H : Hp) (Q : VK) (E : XK) : ¬ spFold6 K 0 vs H Q E := by
  rintro ⟨T, U, rs, N, ns, v, t, f, _, _, _, _, _, _, _, _, h2, _⟩
  have := t.h_pos
  omega
theorem k_fold_rec (D : Df K mg "fold" s_fold ["table", "numbers", "tree"]) : ∀ n : Nat, Dn P w K mg base (1 + n) "fold" ["table", "numbers", "tree"] ((spFold6 K) n) := by
  intro n
  induction n with
  | zero => exact D.ok fun f fd F => ⟨fun vs H Q E h => (fold_z B vs H Q E h).elim, fun _ _ _ _ h => (fold_z B _ _ _ _ h).elim⟩
  | succ n D_fold =>
    refine D.ok fun f fd F => okG0 (k := 1 + n) F sc_fold (fun vs H Q E h => ?_) (fun cdv A outer s H vs Q E hr h => ⟨_, (pss_cons (ps_if (pt_not (pt_val (pe_callB (kk (K := K) (F := rIsi) (P := CallR _ _) call_isi) (by rfl) B.isinstance_ (by decide +kernel) (pa_cons (pv 2) (pa_cons (pe_bltn (v := .ty "tuple") (u := .type "tuple") (by rfl) B.tuple_ (by decide +kernel) rfl) pa_nil)))))
      (pss_one (ps_ret (pe_ix (kk (K := K) (F := rIxT) (P := IxR _) ix_tup) (pv 1) (pv 2) (fun _ _ => rfl))))
      pss_nil)
    (pss_one (ps_ret (pe_ix (kk (K := K) (F := rIxT) (P := IxR _) ix_tup) (pe_ix (kk (K := K) (F := rIxT) (P := IxR _) ix_tup) (pv 0) (pe_cD D_fold (hr.less (by omega)) rfl (pa_cons (pv 0) (pa_cons (pv 1) (pa_cons (pe_ix (kk (K := K) (F := rIxT) (P := IxR _) ix_tup) (pv 2) pe_int (fun _ _ => rfl)) pa_nil)))) (fun _ _ => rfl)) (pe_cD D_fold (hr.less (by omega)) rfl (pa_cons (pv 0) (pa_cons (pv 1) (pa_cons (pe_ix (kk (K := K) (F := rIxT) (P := IxR _) ix_tup) (pv 2) pe_int (fun _ _ => rfl)) pa_nil)))) (fun _ _ => rfl))))), ?_⟩)
    · obtain ⟨T, U, rs, N, ns, v, t, f, rfl, _⟩ := h; rfl
    · obtain ⟨T, U, rs, N, ns, v, t, f, rfl, g, hl, hU, hb, ht, hr, hc, hn, q⟩ := h
      cases t with
      | leaf m =>
        cases (show v = V.int m from ht)
        have e : m = f := hr
        subst e
        have hm : m < ns.length := hc
        refine ⟨_, rfl, _, _, _, _, _, rfl, .ty _, .base (.int _), kit_ty (b := "tuple") (r := false) (by decide +kernel), _, rfl, iteT ?_⟩
        exact ⟨_, rfl, _, rfl, U, _, _, _, rfl, rfl, SqT.of hU, at_of (j := m) rfl (iN_at (getD_at hm)), q⟩
      | node l r =>
        obtain ⟨a, x, y, hv, ha, hx, hy⟩ := ht
        cases (show v = V.ref a from hv)
        obtain ⟨i1, i2⟩ := hr
        have hn' : max l.h r.h + 1 ≤ n + 1 := hn
        have hc' : f + (l.cnt + r.cnt) ≤ ns.length := hc
        have f1 := fv_lt g hl hb i1 (by omega)
        have f2 := fv_lt g hl hb i2 (by omega)
        have f1' : fv (gr rs) ns l < rs.length := by omega
        obtain ⟨k1, k2, k3⟩ := g.rows _ (List.getElem_mem f1')
        refine ⟨_, rfl, _, _, _, _, _, rfl, .ty _, .base (.tup ha), kit_ty (b := "tuple") (r := true) (by decide +kernel), _, rfl, iteF ?_⟩
        refine ⟨_, rfl, _, rfl, _, rfl, _, rfl, a, _, _, _, rfl, rfl, SqT.of ha, at_of (j := 0) rfl rfl, T, U, rs, N, ns, x, l, f, rfl, g, hl, hU, hb, hx, i1, by omega, by omega, T, _, _, _, rfl, rfl, SqT.of g.top, at_of (j := fv (gr rs) ns l) rfl (refs_at f1'), ?_⟩
        refine ⟨_, rfl, _, rfl, _, rfl, a, _, _, _, rfl, rfl, SqT.of ha, at_of (j := 1) rfl rfl, T, U, rs, N, ns, y, r, f + l.cnt, rfl, g, hl, hU, hb, hy, i2, by omega, by omega, ?_⟩
        refine ⟨_, _, _, _, rfl, rfl, SqT.of k1, at_of (j := fv (gr rs) ns r) rfl (iN_at (getD_at (by omega))), ?_⟩
        refine qi q ?_
        show (((((gr rs).getD (fv (gr rs) ns l) []).getD (fv (gr rs) ns r) 0 : Nat)) : Int) = _
        rw [gr_at f1']
theorem k_fold (D : Df K mg "fold" s_fold ["table", "numbers", "tree"]) : Dn P w K mg base 41 "fold" ["table", "numbers", "tree"] ((spFold6 K) 40) := k_fold_rec B D  40
def spShare6 (K : PySem.W.Frag) (n : Nat) : Sp := fun vs H Q _ => ∃ (D T U : Addr) (qs rs : List (Addr × List Nat)) (N S : Nat) (ns : List Nat) (v : V) (t : Tr) (f s : Nat), vs = [.ref D, .ref T, .ref U, v, .int s] ∧ GridAt H T rs N N ∧ rs.length = N ∧ GridAt H D qs S S ∧ qs.length = N ∧ H U = some (.tup ((iN ns).map V.int)) ∧ Bel ns N ∧ TrAt H v t ∧ IsRow t f ∧ f + t.cnt ≤ ns.length ∧ ns.length ≤ 40 ∧ t.h ≤ n ∧ n ≤ 40 ∧ s < S ∧ ∀ L H', Same H H' → H' L = some (.lst ((iN (sv (gr qs) (gr rs) ns t s)).map V.int)) → Q (.ref L) H'
theorem share_z (vs : List V) (H : Hp) (Q : VK) (E : XK) : ¬ spShare6 K 0 vs H Q E := by
  rintro ⟨D, T, U, qs, rs, N, S, ns, v, t, f, s, _, _, _, _, _, _, _, _, _, _, _, h2, _⟩
  have := t.h_pos
  omega
theorem k_share_rec (D : Df K mg "share" s_share ["deeds", "table", "numbers", "tree", "state"]) (D_fold : Dn P w K mg base 41 "fold" ["table", "numbers", "tree"] ((spFold6 K) 40)) : ∀ n : Nat, Dn P w K mg base (42 + n) "share" ["deeds", "table", "numbers", "tree", "state"] ((spShare6 K) n) := by
  intro n
  induction n with
  | zero => exact D.ok fun f fd F => ⟨fun vs H Q E h => (share_z B vs H Q E h).elim, fun _ _ _ _ h => (share_z B _ _ _ _ h).elim⟩
  | succ n D_share =>
    refine D.ok fun f fd F => okG0 (k := 42 + n) F sc_share (fun vs H Q E h => ?_) (fun cdv A outer s H vs Q E hr h => ⟨_, (pss_cons (ps_if (pt_not (pt_val (pe_callB (kk (K := K) (F := rIsi) (P := CallR _ _) call_isi) (by rfl) B.isinstance_ (by decide +kernel) (pa_cons (pv 3) (pa_cons (pe_bltn (v := .ty "tuple") (u := .type "tuple") (by rfl) B.tuple_ (by decide +kernel) rfl) pa_nil)))))
      (pss_one (ps_ret (pe_lst (pa_cons (pv 4) pa_nil))))
      pss_nil)
    (pss_cons (ps_set (i := 5) sc_share.nd rfl (Or.inl rfl) (pe_ix (kk (K := K) (F := rIxT) (P := IxR _) ix_tup) (pe_ix (kk (K := K) (F := rIxT) (P := IxR _) ix_tup) (pv 0) (pe_cD D_fold (hr.less (by omega)) rfl (pa_cons (pv 1) (pa_cons (pv 2) (pa_cons (pe_ix (kk (K := K) (F := rIxT) (P := IxR _) ix_tup) (pv 3) pe_int (fun _ _ => rfl)) pa_nil)))) (fun _ _ => rfl)) (pv 4) (fun _ _ => rfl)))
    (pss_cons (ps_set (i := 6) sc_share.nd rfl (Or.inl rfl) (pe_cD D_share (hr.less (by omega)) rfl (pa_cons (pv 0) (pa_cons (pv 1) (pa_cons (pv 2) (pa_cons (pe_ix (kk (K := K) (F := rIxT) (P := IxR _) ix_tup) (pv 3) pe_int (fun _ _ => rfl)) (pa_cons (pv 4) pa_nil)))))))
    (pss_one (ps_ret (pe_op op_cat (pv 6) (pe_cD D_share (hr.less (by omega)) rfl (pa_cons (pv 0) (pa_cons (pv 1) (pa_cons (pv 2) (pa_cons (pe_ix (kk (K := K) (F := rIxT) (P := IxR _) ix_tup) (pv 3) pe_int (fun _ _ => rfl)) (pa_cons (pv 5) pa_nil)))))))))))), ?_⟩)
    · obtain ⟨D, T, U, qs, rs, N, S, ns, v, t, f, s, rfl, _⟩ := h; rfl
    · obtain ⟨D, T, U, qs, rs, N, S, ns, v, t, f, s, rfl, g, hl, g2, hl2, hU, hb, ht, hr, hc, h40, hn, hn40, hs, q⟩ := h
      cases t with
      | leaf m =>
        cases (show v = V.int m from ht)
        refine ⟨_, rfl, _, _, _, _, _, rfl, .ty _, .base (.int _), kit_ty (b := "tuple") (r := false) (by decide +kernel), _, rfl, iteT ?_⟩
        exact ⟨_, rfl, sz, fun L hL => q L _ (same_new hL _) upd_same⟩
      | node l r =>
        obtain ⟨a, x, y, hv, ha, hx, hy⟩ := ht
        cases (show v = V.ref a from hv)
        obtain ⟨i1, i2⟩ := hr
        have hn' : max l.h r.h + 1 ≤ n + 1 := hn
        have hc' : f + (l.cnt + r.cnt) ≤ ns.length := hc
        have f1 := fv_lt g hl hb i1 (by omega)
        have f1' : fv (gr rs) ns l < qs.length := by omega
        obtain ⟨k1, k2, k3⟩ := g2.rows _ (List.getElem_mem f1')
        have f3 := k3 _ (getD_mem (j := s) (by omega))
        refine ⟨_, rfl, _, _, _, _, _, rfl, .ty _, .base (.tup ha), kit_ty (b := "tuple") (r := true) (by decide +kernel), _, rfl, iteF ?_⟩
        refine ⟨_, rfl, _, rfl, _, rfl, _, rfl, a, _, _, _, rfl, rfl, SqT.of ha, at_of (j := 0) rfl rfl, T, U, rs, N, ns, x, l, f, rfl, g, hl, hU, hb, hx, i1, by omega, by omega, D, _, _, _, rfl, rfl, SqT.of g2.top, at_of (j := fv (gr rs) ns l) rfl (refs_at f1'), ?_⟩
        refine ⟨_, rfl, _, _, _, _, rfl, rfl, SqT.of k1, at_of (j := s) rfl (iN_at (getD_at (by omega))), ?_⟩
        refine ⟨_, rfl, _, rfl, _, rfl, _, rfl, a, _, _, _, rfl, rfl, SqT.of ha, at_of (j := 0) rfl rfl, _, rfl, D, T, U, qs, rs, N, S, ns, x, l, f, s, rfl, g, hl, g2, hl2, hU, hb, hx, i1, by omega, h40, by omega, by omega, hs, fun L1 H1 S1 hL1 => ?_⟩
        refine ⟨_, rfl, _, rfl, _, rfl, _, rfl, _, rfl, a, _, _, _, rfl, rfl, SqT.of (S1 _ _ ha), at_of (j := 1) rfl rfl, _, rfl, D, T, U, qs, rs, N, S, ns, y, r, f + l.cnt, _, rfl, g.same S1, hl, g2.same S1, hl2, S1 _ _ hU, hb, hy.same S1, i2, by omega, h40, by omega, by omega, f3, fun L2 H2 S2 hL2 => ?_⟩
        refine ⟨L1, L2, _, _, rfl, rfl, S2 _ _ hL1, hL2, small (by rw [iN_len, iN_len, sv_len, sv_len]; omega), fun M hM => q M _ (S1.trans (S2.trans (same_new hM _))) ?_⟩
        rw [upd_same, iN_app]
        show _ = some (HO.lst ((iN (sv (gr qs) (gr rs) ns l s ++ sv (gr qs) (gr rs) ns r (((gr qs).getD (fv (gr rs) ns l) []).getD s 0))).map V.int))
        rw [gr_at f1']
theorem k_share (D : Df K mg "share" s_share ["deeds", "table", "numbers", "tree", "state"]) (D_fold : Dn P w K mg base 41 "fold" ["table", "numbers", "tree"] ((spFold6 K) 40)) : Dn P w K mg base 82 "share" ["deeds", "table", "numbers", "tree", "state"] ((spShare6 K) 40) := k_share_rec B D D_fold 40
def spFoldBy (K : PySem.W.Frag) : Sp := fun vs H Q _ => ∃ (T U : Addr) (rs : List (Addr × List Nat)) (N : Nat) (ns : List Nat) (v : V) (t : Tr), vs = [.ref T, .ref U, v] ∧ GridAt H T rs N N ∧ rs.length = N ∧ 1 ≤ N ∧ N ≤ 60 ∧ H U = some (.tup ((iN ns).map V.int)) ∧ Bel ns N ∧ 1 ≤ ns.length ∧ ns.length ≤ 40 ∧ TrAt H v t ∧ IsRow t 0 ∧ t.cnt = ns.length ∧ ∀ H', Same H H' → Q (.int ((fv (gr rs) ns t : Nat) : Int)) H'
theorem k_folded_by (D : Df K mg "folded_by" s_folded_by ["table", "numbers", "tree"]) (D_want_table : Dn P w K mg base 4 "want_table" ["table"] (spWantTable K)) (D_want_numbers : Dn P w K mg base 3 "want_numbers" ["table", "numbers"] (spWantNums K)) (D_want_grouped : Dn P w K mg base 6 "want_grouped" ["numbers", "tree"] (spGrouped K)) (D_fold : Dn P w K mg base 41 "fold" ["table", "numbers", "tree"] ((spFold6 K) 40)) : Dn P w K mg base 47 "folded_by" ["table", "numbers", "tree"] (spFoldBy K) := by
  refine D.ok fun f fd F => okG0 F sc_folded_by (fun vs H Q E h => ?_) (fun cdv A outer s H vs Q E hr h => ⟨_, (pss_cons (ps_expr (pe_cD D_want_table (hr.less (by decide)) rfl (pa_cons (pv 0) pa_nil)))
    (pss_cons (ps_expr (pe_cD D_want_numbers (hr.less (by decide)) rfl (pa_cons (pv 0) (pa_cons (pv 1) pa_nil))))
    (pss_cons (ps_expr (pe_cD D_want_grouped (hr.less (by decide)) rfl (pa_cons (pv 1) (pa_cons (pv 2) pa_nil))))
    (pss_one (ps_ret (pe_cD D_fold (hr.less (by decide)) rfl (pa_cons (pv 0) (pa_cons (pv 1) (pa_cons (pv 2) pa_nil))))))))), ?_⟩)
  · obtain ⟨T, U, rs, N, ns, v, t, rfl, _⟩ := h; rfl
  · obtain ⟨T, U, rs, N, ns, v, t, rfl, g, hl, h1, h60, hU, hb, n1, n40, ht, hr, hc, q⟩ := h
    refine ⟨_, rfl, T, rs, N, rfl, g, hl, h1, h60, fun H1 S1 => ?_⟩
    refine ⟨_, rfl, _, rfl, T, U, rs, N, ns, rfl, g.same S1, hl, S1 _ _ hU, hb, n1, n40, fun H2 S2 => ?_⟩
    have S12 := S1.trans S2
    refine ⟨_, rfl, _, rfl, U, ns, v, t, rfl, S12 _ _ hU, ht.same S12, hr, hc, n40, fun H3 S3 => ?_⟩
    have S13 := S12.trans S3
    exact ⟨_, rfl, _, rfl, _, rfl, T, U, rs, N, ns, v, t, 0, rfl, g.same S13, hl, S13 _ _ hU, hb, ht.same S13, hr, by omega, Nat.le_trans t.h_cnt (by omega), q _ S13⟩
def spShareBy (K : PySem.W.Frag) : Sp := fun vs H Q _ => ∃ (D T U : Addr) (qs rs : List (Addr × List Nat)) (N S : Nat) (ns : List Nat) (v : V) (t : Tr) (s : Nat), vs = [.ref D, .ref T, .ref U, v, .int s] ∧ GridAt H T rs N N ∧ rs.length = N ∧ 1 ≤ N ∧ N ≤ 60 ∧ GridAt H D qs S S ∧ qs.length = N ∧ 1 ≤ S ∧ S ≤ 5 ∧ H U = some (.tup ((iN ns).map V.int)) ∧ Bel ns N ∧ 1 ≤ ns.length ∧ ns.length ≤ 40 ∧ TrAt H v t ∧ IsRow t 0 ∧ t.cnt = ns.length ∧ s < S ∧ ∀ L H', Same H H' → H' L = some (.tup ((iN (sv (gr qs) (gr rs) ns t s)).map V.int)) → Q (.ref L) H'
theorem k_shared_by (D : Df K mg "shared_by" s_shared_by ["deeds", "table", "numbers", "tree", "state"]) (D_want_by_table : Dn P w K mg base 5 "want_by_table" ["deeds", "table"] (spWantBy K)) (D_want_numbers : Dn P w K mg base 3 "want_numbers" ["table", "numbers"] (spWantNums K)) (D_are_numbers : Dn P w K mg base 2 "are_numbers" ["thing", "many"] (spAreNums K)) (D_want_grouped : Dn P w K mg base 6 "want_grouped" ["numbers", "tree"] (spGrouped K)) (D_share : Dn P w K mg base 82 "share" ["deeds", "table", "numbers", "tree", "state"] ((spShare6 K) 40)) : Dn P w K mg base 84 "shared_by" ["deeds", "table", "numbers", "tree", "state"] (spShareBy K) := by
  refine D.ok fun f fd F => okG0 F sc_shared_by (fun vs H Q E h => ?_) (fun cdv A outer s H vs Q E hr h => ⟨_, (pss_cons (ps_expr (pe_cD D_want_by_table (hr.less (by decide)) rfl (pa_cons (pv 0) (pa_cons (pv 1) pa_nil))))
    (pss_cons (ps_expr (pe_cD D_want_numbers (hr.less (by decide)) rfl (pa_cons (pv 1) (pa_cons (pv 2) pa_nil))))
    (pss_cons (ps_if (pt_not (pt_val (pe_cD D_are_numbers (hr.less (by decide)) rfl (pa_cons (pe_tup (pa_cons (pv 4) pa_nil)) (pa_cons (pe_callB (lenK (K := K)) (by rfl) B.len_ (by decide +kernel) (pa_cons (pe_ix (kk (K := K) (F := rIxT) (P := IxR _) ix_tup) (pv 0) pe_int (fun _ _ => rfl)) pa_nil)) pa_nil)))))
      (pss_one ps_never)
      pss_nil)
    (pss_cons (ps_expr (pe_cD D_want_grouped (hr.less (by decide)) rfl (pa_cons (pv 2) (pa_cons (pv 3) pa_nil))))
    (pss_one (ps_ret (pe_callTy (tupOfK (K := K)) (by rfl) B.tuple_ (by decide +kernel) (pa_cons (pe_cD D_share (hr.less (by decide)) rfl (pa_cons (pv 0) (pa_cons (pv 1) (pa_cons (pv 2) (pa_cons (pv 3) (pa_cons (pv 4) pa_nil)))))) pa_nil)))))))), ?_⟩)
  · obtain ⟨D, T, U, qs, rs, N, S, ns, v, t, s, rfl, _⟩ := h; rfl
  · obtain ⟨D, T, U, qs, rs, N, S, ns, v, t, s, rfl, g, hl, h1, h60, g2, hl2, s1, s5, hU, hb, n1, n40, ht, hr, hc, hs, q⟩ := h
    refine ⟨_, rfl, _, rfl, D, T, qs, rs, N, S, rfl, g, hl, h1, h60, g2, hl2, s1, s5, fun H1 S1 => ?_⟩
    refine ⟨_, rfl, _, rfl, T, U, rs, N, ns, rfl, g.same S1, hl, S1 _ _ hU, hb, n1, n40, fun H2 S2 => ?_⟩
    have S12 := S1.trans S2
    obtain ⟨k1, k2, k3⟩ := g2.rows qs[0] (List.getElem_mem (by omega))
    refine ⟨_, rfl, sz, fun z hz => ?_⟩
    have S3 := same_new hz (.tup [.int (s : Nat)])
    have S13 := S12.trans S3
    refine ⟨_, rfl, D, _, _, _, rfl, rfl, SqT.of (S13 _ _ g2.top), at_of (j := 0) rfl (refs_at (by omega)), qs[0].1, _, rfl, .inr (SqT.of (S13 _ _ k1)), z, [s], S, by rw [iN_len, k2] <;> rfl, upd_same, fun x hx => ?_, (by show 1 ≤ 100; decide), fun H4 S4 => ⟨_, rfl, iteF ?_⟩⟩
    · cases List.mem_singleton.mp hx; exact hs
    have S14 := S13.trans S4
    refine ⟨_, rfl, _, rfl, U, ns, v, t, rfl, S14 _ _ hU, ht.same S14, hr, hc, n40, fun H5 S5 => ?_⟩
    have S15 := S14.trans S5
    refine ⟨_, rfl, _, rfl, _, rfl, _, rfl, _, rfl, D, T, U, qs, rs, N, S, ns, v, t, 0, s, rfl, g.same S15, hl, g2.same S15, hl2, S15 _ _ hU, hb, ht.same S15, hr, by omega, n40, Nat.le_trans t.h_cnt (by omega), by decide, hs, fun L H6 S6 hL => ?_⟩
    exact ⟨L, _, rfl, .inl ⟨SqL.of hL, fun M hM => q M _ (S15.trans (S6.trans (same_new hM _))) upd_same⟩⟩
/-! ### the law's own -/
def spPot6 (K : PySem.W.Frag) : Sp := fun vs H Q _ => ∃ (a : Addr) (ns : List Int) (k : Nat), vs = [.ref a, .int k] ∧ SqL K H a (ns.map V.int) ∧ k ≤ 60 ∧ ∀ p H', H p = none → Same H H' → PotAt H' p → Q (.ref p) H'
theorem k__law_store (D : Df K mg "_law_store" s__law_store ["_law_script", "_law_k"]) : Dn P w K mg base 1 "_law_store" ["_law_script", "_law_k"] (spPot6 K) := by
  refine D.ok fun f fd F => okG0 F sc__law_store (fun vs H Q E h => ?_) (fun cdv A outer s H vs Q E hr h => ⟨_, (pss_cons (ps_set (i := 2) sc__law_store.nd rfl (Or.inl rfl) pe_int)
    (C8.pss_cut (ps_if (pt_cmpR op_lt (pv 1) (pe_callB (lenK (K := K)) (by rfl) B.len_ (by decide +kernel) (pa_cons (pv 0) pa_nil)) (nomark _))
      (pss_one (ps_set (i := 2) sc__law_store.nd rfl (Or.inl rfl) (pe_callB call_abs (by rfl) B.abs_ (by decide +kernel) (pa_cons (pe_ix (kk (K := K) (F := rIxL) (P := IxR _) ix_list) (pv 0) (pv 1) (fun _ _ => rfl)) pa_nil))))
      pss_nil)
    (pss_one (ps_ret (pe_lst (pa_cons (pe_callB (call_max2 rfl) (by rfl) B.max_ (by decide +kernel) (pa_cons pe_int (pa_cons (pe_op op_sub (pv 2) (pe_op op_pow pe_int pe_int)) pa_nil))) (pa_cons (pe_op op_mod (pe_op op_pow (pe_op op_add (pe_op op_add (pe_op op_mod (pv 2) pe_int) (pe_op op_mulX pe_int (pv 1))) pe_int) pe_int) pe_int) pa_nil))))))), ?_⟩)
  · obtain ⟨a, ns, k, rfl, _⟩ := h; rfl
  · obtain ⟨a, ns, k, rfl, hs, hk, q⟩ := h
    refine ⟨fun σ H1 => ∃ c : Int, σ = [some (.ref a), some (.int k), some (.int c)] ∧ H1 = H, ?_, ?_⟩
    · refine ⟨_, rfl, _, rfl, a, _, rfl, .inl hs, _, _, rfl, rfl, _, rfl, ite2 (fun c => ?_) (fun c => ?_)⟩
      · have c' : (k : Int) < ((ns.map V.int).length : Nat) := of_decide_eq_true c
        have hk2 : k < ns.length := by rw [List.length_map] at c'; omega
        exact ⟨_, rfl, _, rfl, a, _, _, _, rfl, rfl, hs, at_of (j := k) rfl (by rw [List.getElem?_map, List.getElem?_eq_getElem hk2] <;> rfl), _, rfl, _, rfl, rfl⟩
      · exact ⟨_, rfl, rfl⟩
    · rintro _ _ ⟨c, rfl, rfl⟩
      have m1 := Int.emod_nonneg c (by decide : (2147483549 : Int) ≠ 0)
      have m2 := Int.emod_lt_of_pos c (by decide : (0 : Int) < 2147483549)
      refine ⟨_, rfl, _, _, rfl, rfl, ⟨by decide, by decide, by decide⟩, _, _, rfl, rfl, _, _, rfl, ?_⟩
      refine ⟨_, rfl, _, _, rfl, rfl, pj, _, rfl, _, _, rfl, rfl, mulx 13 6 (by decide) (by omega), _, _, rfl, rfl, _, _, rfl, rfl, _, _, rfl, rfl, ⟨by decide, by decide, by omega⟩, _, _, rfl, rfl, pj, sz, fun p hp => ?_⟩
      have e1 := Int.emod_nonneg ((c % 2147483549 + 1009 * (k : Int) + 3) ^ Int.toNat 5) (by decide : (2147483629 : Int) ≠ 0)
      have e2 := Int.emod_lt_of_pos ((c % 2147483549 + 1009 * (k : Int) + 3) ^ Int.toNat 5) (by decide : (0 : Int) < 2147483629)
      refine q p _ hp (same_new hp _) ⟨_, _, upd_same, ?_, e1, Int.lt_trans e2 (by decide)⟩
      split <;> omega
def spTake : Sp := fun vs H Q _ => ∃ (p : Addr) (m : Int), vs = [.ref p, .int m] ∧ PotAt H p ∧ 1 ≤ m ∧ m < 2 ^ 200 ∧ ∀ (d : Nat) H', (d : Int) < m → But p H H' → PotAt H' p → Q (.int d) H'
theorem k__law_draw (D : Df K mg "_law_draw" s__law_draw ["_law_store_here", "_law_many"]) : Dn P w K mg base 1 "_law_draw" ["_law_store_here", "_law_many"] spTake := by
  refine D.ok fun f fd F => okG0 F sc__law_draw (fun vs H Q E h => ?_) (fun cdv A outer s H vs Q E hr h => ⟨_, (pss_cons (ps_if (pt_cmpR op_gt (pe_ix (kk (K := K) (F := rIxL) (P := IxR _) ix_list) (pv 0) pe_int (fun _ _ => rfl)) pe_int (nomark _))
      (pss_cons (ps_set (i := 2) sc__law_draw.nd rfl (Or.inl rfl) (pe_op op_mod (pe_ix (kk (K := K) (F := rIxL) (P := IxR _) ix_list) (pv 0) pe_int (fun _ _ => rfl)) (pv 1)))
      (pss_cons (ps_asg (pe_op op_fdivW (pe_ix (kk (K := K) (F := rIxL) (P := IxR _) ix_list) (pv 0) pe_int (fun _ _ => rfl)) (pv 1)) (pg_sub (pv 0) pe_int set_list))
      (pss_one (ps_ret (pv 2)))))
      pss_nil)
    (pss_cons (ps_asg (pe_op op_mod (pe_op op_add (pe_op op_mulX (pe_ix (kk (K := K) (F := rIxL) (P := IxR _) ix_list) (pv 0) pe_int (fun _ _ => rfl)) pe_int) pe_int) pe_int) (pg_sub (pv 0) pe_int set_list))
    (pss_one (ps_ret (pe_op op_mod (pe_op op_fdivW (pe_op op_mod (pe_op op_pow (pe_ix (kk (K := K) (F := rIxL) (P := IxR _) ix_list) (pv 0) pe_int (fun _ _ => rfl)) pe_int) pe_int) pe_int) (pv 1)))))), ?_⟩)
  · obtain ⟨p, m, rfl, _⟩ := h; rfl
  · obtain ⟨p, m, rfl, ⟨a, b, hp, ha, hb, hb2⟩, hm, hm2, q0⟩ := h
    have q : ∀ (d : Int) H', 0 ≤ d → d < m → But p H H' → PotAt H' p → Q (.int d) H' := fun d H' d0 d1 => by
      obtain ⟨e, rfl⟩ : ∃ e : Nat, d = (e : Int) := ⟨d.toNat, by omega⟩
      exact q0 e H' d1
    refine ⟨_, rfl, p, _, _, _, rfl, rfl, SqL.of hp, at_of (j := 0) rfl rfl, _, _, rfl, rfl, _, rfl, ite2 (fun c => ?_) (fun c => ?_)⟩
    · refine ⟨_, rfl, p, _, _, _, rfl, rfl, SqL.of hp, at_of (j := 0) rfl rfl, _, rfl, _, _, rfl, rfl, by omega, ?_⟩
      refine ⟨_, rfl, p, _, _, _, rfl, rfl, SqL.of hp, at_of (j := 0) rfl rfl, _, rfl, _, _, rfl, rfl, ⟨by omega, Nat.lt_trans (log_lt (n := 200) (by decide) (by omega)) (by decide)⟩, _, rfl, p, _, _, _, rfl, rfl, hp, rfl, _, rfl, ?_⟩
      have h1 := Int.emod_nonneg a (by omega : m ≠ 0)
      have h2 := Int.emod_lt_of_pos a (by omega : 0 < m)
      have h3 := Int.ediv_nonneg ha (by omega : 0 ≤ m)
      exact q _ _ h1 h2 But.upd ⟨_, _, upd_same, h3, hb, hb2⟩
    · have hm1 := Int.emod_nonneg (b * 48271 + 12289) (by decide : (2147483647 : Int) ≠ 0)
      have hm3 := Int.emod_lt_of_pos (b * 48271 + 12289) (by decide : (0 : Int) < 2147483647)
      refine ⟨_, rfl, p, _, _, _, rfl, rfl, SqL.of hp, at_of (j := 1) rfl rfl, _, _, rfl, rfl, mulx 40 16 (by omega) (by decide), _, _, rfl, rfl, _, _, rfl, rfl, pj, ?_⟩
      refine ⟨_, rfl, p, _, _, _, rfl, rfl, hp, rfl, ?_⟩
      refine ⟨_, rfl, p, _, _, _, rfl, rfl, SqL.of upd_same, at_of (j := 1) rfl rfl, _, _, rfl, rfl, ⟨by decide, by decide, by omega⟩, ?_⟩
      refine ⟨_, _, rfl, rfl, pj, _, _, rfl, rfl, ⟨by decide, by decide⟩, _, rfl, _, _, rfl, rfl, hm, ?_⟩
      exact q _ _ (Int.emod_nonneg _ (by omega)) (Int.emod_lt_of_pos _ (by omega)) But.upd ⟨_, _, upd_same, ha, hm1, by omega⟩
def spLT6 (n : Nat) : Sp := fun vs H Q _ => ∃ (p : Addr) (f m : Nat), vs = [.ref p, .int f, .int m] ∧ PotAt H p ∧ 1 ≤ m ∧ m ≤ n ∧ m ≤ 40 ∧ ∀ v t H', But p H H' → PotAt H' p → TrAt H' v t → IsRow t f → t.cnt = m → Q v H'
theorem _law_tree_z (vs : List V) (H : Hp) (Q : VK) (E : XK) : ¬ spLT6 0 vs H Q E := by
  rintro ⟨p, f, m, _, _, h1, h2, _⟩
  omega
theorem k__law_tree_rec (D : Df K mg "_law_tree" s__law_tree ["_law_store_here", "_law_first", "_law_many"]) (D__law_draw : Dn P w K mg base 1 "_law_draw" ["_law_store_here", "_law_many"] spTake) : ∀ n : Nat, Dn P w K mg base (2 + n) "_law_tree" ["_law_store_here", "_law_first", "_law_many"] (spLT6 n) := by
  intro n
  induction n with
  | zero => exact D.ok fun f fd F => ⟨fun vs H Q E h => (_law_tree_z B vs H Q E h).elim, fun _ _ _ _ h => (_law_tree_z B _ _ _ _ h).elim⟩
  | succ n D__law_tree =>
    refine D.ok fun f fd F => okG0 (k := 2 + n) F sc__law_tree (fun vs H Q E h => ?_) (fun cdv A outer s H vs Q E hr h => ⟨_, (pss_cons (ps_if (pt_cmpR op_eq (pv 2) pe_int (nomark _))
      (pss_one (ps_ret (pv 1)))
      pss_nil)
    (pss_cons (ps_set (i := 3) sc__law_tree.nd rfl (Or.inl rfl) (pe_op op_add pe_int (pe_cD D__law_draw (hr.less (by omega)) rfl (pa_cons (pv 0) (pa_cons (pe_op op_sub (pv 2) pe_int) pa_nil)))))
    (pss_cons (ps_set (i := 4) sc__law_tree.nd rfl (Or.inl rfl) (pe_cD D__law_tree (hr.less (by omega)) rfl (pa_cons (pv 0) (pa_cons (pv 1) (pa_cons (pv 3) pa_nil)))))
    (pss_one (ps_ret (pe_tup (pa_cons (pv 4) (pa_cons (pe_cD D__law_tree (hr.less (by omega)) rfl (pa_cons (pv 0) (pa_cons (pe_op op_add (pv 1) (pv 3)) (pa_cons (pe_op op_sub (pv 2) (pv 3)) pa_nil)))) pa_nil)))))))), ?_⟩)
    · obtain ⟨p, f, m, rfl, _⟩ := h; rfl
    · obtain ⟨p, f, m, rfl, hp, h1, h2, h40, q⟩ := h
      refine ⟨_, rfl, rfl, _, rfl, ite2 (fun c => ?_) (fun c => ?_)⟩
      · have c' : m = 1 := by have := V.int.inj (of_decide_eq_true c); omega
        subst c'
        exact ⟨_, rfl, q _ (.leaf f) _ But.refl hp rfl rfl rfl⟩
      · have c' : m ≠ 1 := fun z => c (by subst z; rfl)
        refine ⟨_, rfl, _, rfl, _, _, rfl, rfl, p, _, rfl, hp, by omega, Int.lt_of_le_of_lt (b := 40) (by omega) (by decide), fun e H1 e1 b1 p1 => ⟨_, _, rfl, rfl, ?_⟩⟩
        refine ⟨_, rfl, _, rfl, _, rfl, p, f, 1 + e, rfl, p1, by omega, by omega, by omega, fun v1 t1 H2 b2 p2 k1 k2 k3 => ?_⟩
        refine ⟨_, rfl, _, rfl, _, rfl, _, rfl, _, _, rfl, rfl, _, rfl, _, rfl, _, _, rfl, rfl, p, f + (1 + e), m - (1 + e), ?_, p2, by omega, by omega, by omega, fun v2 t2 H3 b3 p3 g1 g2 g3 => ⟨sz, fun a ha => ?_⟩⟩
        · show [V.ref p, V.int ((f : Int) + (1 + (e : Int))), V.int ((m : Int) - (1 + (e : Int)))] = _
          rw [show (f : Int) + (1 + (e : Int)) = ((f + (1 + e) : Nat) : Int) by omega, show (m : Int) - (1 + (e : Int)) = ((m - (1 + e) : Nat) : Int) by omega] <;> rfl
        · have S3 := same_new ha (.tup [v1, v2])
          obtain ⟨_, _, hp2, _⟩ := p2
          refine q _ (.node t1 t2) _ (b1.trans (b2.trans (b3.trans (same_but S3)))) (p3.same S3) ⟨a, v1, v2, rfl, upd_same, (k1.but b3 hp2).same S3, g1.same S3⟩ ⟨k2, by rw [k3]; exact g2⟩ ?_
          show t1.cnt + t2.cnt = m
          omega
theorem k__law_tree (D : Df K mg "_law_tree" s__law_tree ["_law_store_here", "_law_first", "_law_many"]) (D__law_draw : Dn P w K mg base 1 "_law_draw" ["_law_store_here", "_law_many"] spTake) : Dn P w K mg base 42 "_law_tree" ["_law_store_here", "_law_first", "_law_many"] (spLT6 40) := k__law_tree_rec B D D__law_draw 40
def ta (m : Nat) : Nat → Tr
  | 0 => .leaf (m - 1)
  | i + 1 => .node (.leaf (m - 1 - (i + 1))) (ta m i)
omit B in
theorem ta_is {m : Nat} : ∀ i, i + 1 ≤ m → IsRow (ta m i) (m - 1 - i) ∧ (ta m i).cnt = i + 1
  | 0, _ => ⟨rfl, rfl⟩
  | i + 1, h => by
    obtain ⟨a, b⟩ := ta_is (m := m) i (by omega)
    refine ⟨⟨rfl, ?_⟩, by show 1 + _ = _; omega⟩
    show IsRow (ta m i) (m - 1 - (i + 1) + 1)
    rw [show m - 1 - (i + 1) + 1 = m - 1 - i by omega]
    exact a
def spAbout : Sp := fun vs H Q _ => ∃ m : Nat, vs = [.int m] ∧ 1 ≤ m ∧ m ≤ 40 ∧ ∀ v t H', Same H H' → TrAt H' v t → IsRow t 0 → t.cnt = m → Q v H'
theorem k__law_turned_about (D : Df K mg "_law_turned_about" s__law_turned_about ["_law_many"]) : Dn P w K mg base 1 "_law_turned_about" ["_law_many"] spAbout := by
  refine D.ok fun f fd F => okG0 F sc__law_turned_about (fun vs H Q E h => ?_) (fun cdv A outer s H vs Q E hr h => ⟨_, (pss_cons (ps_set (i := 1) sc__law_turned_about.nd rfl (Or.inl rfl) (pe_op op_sub (pv 0) pe_int))
    (pss_cons (ps_for PassesOwn.never rfl (pi_range1 (by rfl) B.range_ (pa_cons (pe_op op_sub (pv 0) pe_int) pa_nil)) (pg_name (i := 2) sc__law_turned_about.nd rfl (Or.inl rfl))
      (pss_one (ps_set (i := 1) sc__law_turned_about.nd rfl (Or.inl rfl) (pe_tup (pa_cons (pe_op op_sub (pe_op op_sub (pv 0) pe_int) (pv 2)) (pa_cons (pv 1) pa_nil))))))
    (pss_one (ps_ret (pv 1))))), ?_⟩)
  · obtain ⟨m, rfl, _⟩ := h; rfl
  · obtain ⟨m, rfl, h1, h40, q⟩ := h
    refine ⟨_, rfl, _, _, rfl, rfl, _, rfl, _, _, rfl, rfl, _, rfl, by omega, by omega, ?_⟩
    rw [show ((m : Int) - 1).toNat = m - 1 by omega]
    refine for_range (lo := 0) (n := m - 1) (fun i σ H2 => ∃ (v : V) (v2 : Option V), σ = [some (.int m), some v, v2] ∧ Same H H2 ∧ TrAt H2 v (ta m i)) ⟨_, none, rfl, Same.refl H, ?_⟩ ?_ ?_
    · show V.int ((m : Int) - 1) = V.int ((m - 1 : Nat) : Int)
      rw [show (m : Int) - 1 = ((m - 1 : Nat) : Int) by omega]
    · rintro i σ H2 hi ⟨v, v2, rfl, S2, ht⟩
      refine ⟨_, rfl, _, _, rfl, rfl, _, rfl, _, _, rfl, rfl, _, rfl, sz, fun a ha => ?_⟩
      have S3 := same_new ha (.tup [.int ((m : Int) - 2 - (0 + (i : Int))), v])
      refine ⟨_, _, rfl, S2.trans S3, a, _, v, rfl, upd_same, ?_, ht.same S3⟩
      show V.int ((m : Int) - 2 - (0 + (i : Int))) = V.int ((m - 1 - (i + 1) : Nat) : Int)
      rw [show (m : Int) - 2 - (0 + (i : Int)) = ((m - 1 - (i + 1) : Nat) : Int) by omega]
    · rintro σ H2 ⟨v, v2, rfl, S2, ht⟩
      obtain ⟨a, b⟩ := ta_is (m := m) (m - 1) (by omega)
      rw [show m - 1 - (m - 1) = 0 by omega] at a
      exact ⟨_, rfl, q v _ _ S2 ht a (by omega)⟩
theorem _law_folded_z (vs : List V) (H : Hp) (Q : VK) (E : XK) : ¬ spFold6 K 0 vs H Q E := by
  rintro ⟨T, U, rs, N, ns, v, t, f, _, _, _, _, _, _, _, _, h2, _⟩
  have := t.h_pos
  omega
theorem k__law_folded_rec (D : Df K mg "_law_folded" s__law_folded ["_law_table", "_law_numbers", "_law_tree_here"]) : ∀ n : Nat, Dn P w K mg base (1 + n) "_law_folded" ["_law_table", "_law_numbers", "_law_tree_here"] ((spFold6 K) n) := by
  intro n
  induction n with
  | zero => exact D.ok fun f fd F => ⟨fun vs H Q E h => (_law_folded_z B vs H Q E h).elim, fun _ _ _ _ h => (_law_folded_z B _ _ _ _ h).elim⟩
  | succ n D__law_folded =>
    refine D.ok fun f fd F => okG0 (k := 1 + n) F sc__law_folded (fun vs H Q E h => ?_) (fun cdv A outer s H vs Q E hr h => ⟨_, (pss_cons (ps_if (pt_not (pt_val (pe_callB (kk (K := K) (F := rIsi) (P := CallR _ _) call_isi) (by rfl) B.isinstance_ (by decide +kernel) (pa_cons (pv 2) (pa_cons (pe_bltn (v := .ty "tuple") (u := .type "tuple") (by rfl) B.tuple_ (by decide +kernel) rfl) pa_nil)))))
      (pss_one (ps_ret (pe_ix (kk (K := K) (F := rIxT) (P := IxR _) ix_tup) (pv 1) (pv 2) (fun _ _ => rfl))))
      pss_nil)
    (pss_one (ps_ret (pe_ix (kk (K := K) (F := rIxT) (P := IxR _) ix_tup) (pe_ix (kk (K := K) (F := rIxT) (P := IxR _) ix_tup) (pv 0) (pe_cD D__law_folded (hr.less (by omega)) rfl (pa_cons (pv 0) (pa_cons (pv 1) (pa_cons (pe_ix (kk (K := K) (F := rIxT) (P := IxR _) ix_tup) (pv 2) pe_int (fun _ _ => rfl)) pa_nil)))) (fun _ _ => rfl)) (pe_cD D__law_folded (hr.less (by omega)) rfl (pa_cons (pv 0) (pa_cons (pv 1) (pa_cons (pe_ix (kk (K := K) (F := rIxT) (P := IxR _) ix_tup) (pv 2) pe_int (fun _ _ => rfl)) pa_nil)))) (fun _ _ => rfl))))), ?_⟩)
    · obtain ⟨T, U, rs, N, ns, v, t, f, rfl, _⟩ := h; rfl
    · obtain ⟨T, U, rs, N, ns, v, t, f, rfl, g, hl, hU, hb, ht, hr, hc, hn, q⟩ := h
      cases t with
      | leaf m =>
        cases (show v = V.int m from ht)
        have e : m = f := hr
        subst e
        have hm : m < ns.length := hc
        refine ⟨_, rfl, _, _, _, _, _, rfl, .ty _, .base (.int _), kit_ty (b := "tuple") (r := false) (by decide +kernel), _, rfl, iteT ?_⟩
        exact ⟨_, rfl, _, rfl, U, _, _, _, rfl, rfl, SqT.of hU, at_of (j := m) rfl (iN_at (getD_at hm)), q⟩
      | node l r =>
        obtain ⟨a, x, y, hv, ha, hx, hy⟩ := ht
        cases (show v = V.ref a from hv)
        obtain ⟨i1, i2⟩ := hr
        have hn' : max l.h r.h + 1 ≤ n + 1 := hn
        have hc' : f + (l.cnt + r.cnt) ≤ ns.length := hc
        have f1 := fv_lt g hl hb i1 (by omega)
        have f2 := fv_lt g hl hb i2 (by omega)
        have f1' : fv (gr rs) ns l < rs.length := by omega
        obtain ⟨k1, k2, k3⟩ := g.rows _ (List.getElem_mem f1')
        refine ⟨_, rfl, _, _, _, _, _, rfl, .ty _, .base (.tup ha), kit_ty (b := "tuple") (r := true) (by decide +kernel), _, rfl, iteF ?_⟩
        refine ⟨_, rfl, _, rfl, _, rfl, _, rfl, a, _, _, _, rfl, rfl, SqT.of ha, at_of (j := 0) rfl rfl, T, U, rs, N, ns, x, l, f, rfl, g, hl, hU, hb, hx, i1, by omega, by omega, T, _, _, _, rfl, rfl, SqT.of g.top, at_of (j := fv (gr rs) ns l) rfl (refs_at f1'), ?_⟩
        refine ⟨_, rfl, _, rfl, _, rfl, a, _, _, _, rfl, rfl, SqT.of ha, at_of (j := 1) rfl rfl, T, U, rs, N, ns, y, r, f + l.cnt, rfl, g, hl, hU, hb, hy, i2, by omega, by omega, ?_⟩
        refine ⟨_, _, _, _, rfl, rfl, SqT.of k1, at_of (j := fv (gr rs) ns r) rfl (iN_at (getD_at (by omega))), ?_⟩
        refine qi q ?_
        show (((((gr rs).getD (fv (gr rs) ns l) []).getD (fv (gr rs) ns r) 0 : Nat)) : Int) = _
        rw [gr_at f1']
theorem k__law_folded (D : Df K mg "_law_folded" s__law_folded ["_law_table", "_law_numbers", "_law_tree_here"]) : Dn P w K mg base 41 "_law_folded" ["_law_table", "_law_numbers", "_law_tree_here"] ((spFold6 K) 40) := k__law_folded_rec B D  40
def spShared6 (K : PySem.W.Frag) (n : Nat) : Sp := fun vs H Q _ => ∃ (D T U : Addr) (qs rs : List (Addr × List Nat)) (N S : Nat) (ns : List Nat) (v : V) (t : Tr) (f s : Nat), vs = [.ref D, .ref T, .ref U, v, .int s] ∧ GridAt H T rs N N ∧ rs.length = N ∧ GridAt H D qs S S ∧ qs.length = N ∧ H U = some (.tup ((iN ns).map V.int)) ∧ Bel ns N ∧ TrAt H v t ∧ IsRow t f ∧ f + t.cnt ≤ ns.length ∧ ns.length ≤ 40 ∧ t.h ≤ n ∧ n ≤ 40 ∧ s < S ∧ ∀ L H', Same H H' → H' L = some (.tup ((iN (sv (gr qs) (gr rs) ns t s)).map V.int)) → Q (.ref L) H'
theorem _law_shared_z (vs : List V) (H : Hp) (Q : VK) (E : XK) : ¬ spShared6 K 0 vs H Q E := by
  rintro ⟨D, T, U, qs, rs, N, S, ns, v, t, f, s, _, _, _, _, _, _, _, _, _, _, _, h2, _⟩
  have := t.h_pos
  omega
theorem k__law_shared_rec (D : Df K mg "_law_shared" s__law_shared ["_law_deeds", "_law_table", "_law_numbers", "_law_tree_here", "_law_state"]) (D__law_folded : Dn P w K mg base 41 "_law_folded" ["_law_table", "_law_numbers", "_law_tree_here"] ((spFold6 K) 40)) : ∀ n : Nat, Dn P w K mg base (42 + n) "_law_shared" ["_law_deeds", "_law_table", "_law_numbers", "_law_tree_here", "_law_state"] ((spShared6 K) n) := by
  intro n
  induction n with
  | zero => exact D.ok fun f fd F => ⟨fun vs H Q E h => (_law_shared_z B vs H Q E h).elim, fun _ _ _ _ h => (_law_shared_z B _ _ _ _ h).elim⟩
  | succ n D__law_shared =>
    refine D.ok fun f fd F => okG0 (k := 42 + n) F sc__law_shared (fun vs H Q E h => ?_) (fun cdv A outer s H vs Q E hr h => ⟨_, (pss_cons (ps_if (pt_not (pt_val (pe_callB (kk (K := K) (F := rIsi) (P := CallR _ _) call_isi) (by rfl) B.isinstance_ (by decide +kernel) (pa_cons (pv 3) (pa_cons (pe_bltn (v := .ty "tuple") (u := .type "tuple") (by rfl) B.tuple_ (by decide +kernel) rfl) pa_nil)))))
      (pss_one (ps_ret (pe_tup (pa_cons (pv 4) pa_nil))))
      pss_nil)
    (pss_cons (ps_set (i := 5) sc__law_shared.nd rfl (Or.inl rfl) (pe_ix (kk (K := K) (F := rIxT) (P := IxR _) ix_tup) (pv 0) (pe_cD D__law_folded (hr.less (by omega)) rfl (pa_cons (pv 1) (pa_cons (pv 2) (pa_cons (pe_ix (kk (K := K) (F := rIxT) (P := IxR _) ix_tup) (pv 3) pe_int (fun _ _ => rfl)) pa_nil)))) (fun _ _ => rfl)))
    (pss_cons (ps_set (i := 6) sc__law_shared.nd rfl (Or.inl rfl) (pe_cD D__law_shared (hr.less (by omega)) rfl (pa_cons (pv 0) (pa_cons (pv 1) (pa_cons (pv 2) (pa_cons (pe_ix (kk (K := K) (F := rIxT) (P := IxR _) ix_tup) (pv 3) pe_int (fun _ _ => rfl)) (pa_cons (pv 4) pa_nil)))))))
    (pss_one (ps_ret (pe_op (kk (K := K) (F := rCatT) (P := OpR _ _) op_catT) (pv 6) (pe_cD D__law_shared (hr.less (by omega)) rfl (pa_cons (pv 0) (pa_cons (pv 1) (pa_cons (pv 2) (pa_cons (pe_ix (kk (K := K) (F := rIxT) (P := IxR _) ix_tup) (pv 3) pe_int (fun _ _ => rfl)) (pa_cons (pe_ix (kk (K := K) (F := rIxT) (P := IxR _) ix_tup) (pv 5) (pv 4) (fun _ _ => rfl)) pa_nil)))))))))))), ?_⟩)
    · obtain ⟨D, T, U, qs, rs, N, S, ns, v, t, f, s, rfl, _⟩ := h; rfl
    · obtain ⟨D, T, U, qs, rs, N, S, ns, v, t, f, s, rfl, g, hl, g2, hl2, hU, hb, ht, hr, hc, h40, hn, hn40, hs, q⟩ := h
      cases t with
      | leaf m =>
        cases (show v = V.int m from ht)
        refine ⟨_, rfl, _, _, _, _, _, rfl, .ty _, .base (.int _), kit_ty (b := "tuple") (r := false) (by decide +kernel), _, rfl, iteT ?_⟩
        exact ⟨_, rfl, sz, fun L hL => q L _ (same_new hL _) upd_same⟩
      | node l r =>
        obtain ⟨a, x, y, hv, ha, hx, hy⟩ := ht
        cases (show v = V.ref a from hv)
        obtain ⟨i1, i2⟩ := hr
        have hn' : max l.h r.h + 1 ≤ n + 1 := hn
        have hc' : f + (l.cnt + r.cnt) ≤ ns.length := hc
        have f1 := fv_lt g hl hb i1 (by omega)
        have f1' : fv (gr rs) ns l < qs.length := by omega
        obtain ⟨k1, k2, k3⟩ := g2.rows _ (List.getElem_mem f1')
        have f3 := k3 _ (getD_mem (j := s) (by omega))
        refine ⟨_, rfl, _, _, _, _, _, rfl, .ty _, .base (.tup ha), kit_ty (b := "tuple") (r := true) (by decide +kernel), _, rfl, iteF ?_⟩
        refine ⟨_, rfl, _, rfl, _, rfl, _, rfl, a, _, _, _, rfl, rfl, SqT.of ha, at_of (j := 0) rfl rfl, T, U, rs, N, ns, x, l, f, rfl, g, hl, hU, hb, hx, i1, by omega, by omega, D, _, _, _, rfl, rfl, SqT.of g2.top, at_of (j := fv (gr rs) ns l) rfl (refs_at f1'), ?_⟩
        refine ⟨_, rfl, _, rfl, _, rfl, _, rfl, a, _, _, _, rfl, rfl, SqT.of ha, at_of (j := 0) rfl rfl, _, rfl, D, T, U, qs, rs, N, S, ns, x, l, f, s, rfl, g, hl, g2, hl2, hU, hb, hx, i1, by omega, h40, by omega, by omega, hs, fun L1 H1 S1 hL1 => ?_⟩
        refine ⟨_, rfl, _, rfl, _, rfl, _, rfl, _, rfl, a, _, _, _, rfl, rfl, SqT.of (S1 _ _ ha), at_of (j := 1) rfl rfl, _, rfl, _, rfl, _, _, _, _, rfl, rfl, SqT.of (S1 _ _ k1), at_of (j := s) rfl (iN_at (getD_at (by omega))), D, T, U, qs, rs, N, S, ns, y, r, f + l.cnt, _, rfl, g.same S1, hl, g2.same S1, hl2, S1 _ _ hU, hb, hy.same S1, i2, by omega, h40, by omega, by omega, f3, fun L2 H2 S2 hL2 => ?_⟩
        have ne : ∀ (w : Tr) (u : Nat), (iN (sv (gr qs) (gr rs) ns w u)).map V.int ≠ [] := fun w u z => by
          have h1 := congrArg List.length z
          rw [iN_len, sv_len] at h1
          have h2 := w.cnt_pos
          have h3 : w.cnt = 0 := h1
          omega
        refine ⟨L1, L2, _, _, rfl, rfl, SqT.of (S2 _ _ hL1), SqT.of hL2, ne _ _, small (by rw [iN_len, iN_len, sv_len, sv_len]; omega), fun z => absurd z (ne _ _), fun _ M hM => q M _ (S1.trans (S2.trans (same_new hM _))) ?_⟩
        rw [upd_same, iN_app]
        show _ = some (HO.tup ((iN (sv (gr qs) (gr rs) ns l s ++ sv (gr qs) (gr rs) ns r (((gr qs).getD (fv (gr rs) ns l) []).getD s 0))).map V.int))
        rw [gr_at f1']
theorem k__law_shared (D : Df K mg "_law_shared" s__law_shared ["_law_deeds", "_law_table", "_law_numbers", "_law_tree_here", "_law_state"]) (D__law_folded : Dn P w K mg base 41 "_law_folded" ["_law_table", "_law_numbers", "_law_tree_here"] ((spFold6 K) 40)) : Dn P w K mg base 82 "_law_shared" ["_law_deeds", "_law_table", "_law_numbers", "_law_tree_here", "_law_state"] ((spShared6 K) 40) := k__law_shared_rec B D D__law_folded 40
omit B in
theorem row_lc {σ : L2.St} {H : Hp} {Q : VK} {a j b : Nat} {p : Addr} {n m : Nat} (hp : PotAt H p) (ha : σ[a]? = some (some (.int n)))
    (h0 : ∀ x, ((wipe σ [j]).set j x)[0]? = some (some (.ref p))) (hb : ∀ x, ((wipe σ [j]).set j x)[b]? = some (some (.int m))) (hn : n ≤ 100) (m1 : 1 ≤ m) (mb : m ≤ 100)
    (q : ∀ D (xs : List Nat) H', But p H H' → PotAt H' p → H D = none → H' D = some (.lst ((iN xs).map V.int)) → xs.length = n → Bel xs m → Q (.ref D) H') :
    tLc (iRng1 (tCons (tVar a) tNil)) (gName j) tYes (tCall spTake [] E0 (tCons (tVar 0) (tCons (tVar b) tNil))) [j] σ H Q := by
  refine ⟨_, ha, _, rfl, by omega, by omega, fun D hD => ?_⟩
  have e : ((n : Int)).toNat = n := Int.toNat_natCast n
  rw [e]
  have np := pot_ne hp hD
  refine lc_range (lo := 0) (n := n) (fun i H3 => ∃ xs : List Nat, But p H H3 ∧ PotAt H3 p ∧ H3 D = some (.lst ((iN xs).map V.int)) ∧ xs.length = i ∧ Bel xs m) ⟨[], same_but (same_new hD _), hp.same (same_new hD _), upd_same, rfl, fun x hx => nomatch hx⟩ ?_ ?_
  · rintro i H3 hi ⟨xs, b3, p3, hD3, hl, hbl⟩
    refine ⟨?_, _, h0 _, _, hb _, p, m, rfl, p3, by omega, Int.lt_of_le_of_lt (b := 100) (by omega) (by decide), fun d H4 hd b4 p4 => ?_⟩
    · show ((σ.set j none).set j _).set j none = σ.set j none
      rw [List.set_set, List.set_set]
    have hD4 := b4 _ _ np hD3
    refine ⟨_, hD4, small1000 (by rw [iN_len]; omega), xs ++ [d], but_upd hD (b3.trans b4), p4.upd np.symm, by rw [upd_same, iN_snoc], by rw [List.length_append, hl] <;> rfl, fun x hx => ?_⟩
    rcases List.mem_append.mp hx with h | h
    · exact hbl x h
    · cases List.mem_singleton.mp h; omega
  · rintro H3 ⟨xs, b3, p3, hD3, hl, hbl⟩
    exact q D xs _ b3 p3 hD hD3 hl hbl
omit B in
theorem rowT_lc {σ : L2.St} {H : Hp} {Q : VK} {a j b : Nat} {p : Addr} {n m : Nat} (hp : PotAt H p) (ha : σ[a]? = some (some (.int n)))
    (h0 : ∀ x, ((wipe σ [j]).set j x)[0]? = some (some (.ref p))) (hb : ∀ x, ((wipe σ [j]).set j x)[b]? = some (some (.int m))) (hn : n ≤ 100) (m1 : 1 ≤ m) (mb : m ≤ 100)
    (q : ∀ U (xs : List Nat) H', But p H H' → PotAt H' p → H' U = some (.tup ((iN xs).map V.int)) → xs.length = n → Bel xs m → Q (.ref U) H') :
    tCB (rTupOf K) (tCons (tLc (iRng1 (tCons (tVar a) tNil)) (gName j) tYes (tCall spTake [] E0 (tCons (tVar 0) (tCons (tVar b) tNil))) [j]) tNil) σ H Q := by
  unfold tCB tCons
  refine row_lc hp ha h0 hb hn m1 mb fun D xs H' b1 p1 _ hD hl hb => ⟨D, _, rfl, .inl ⟨SqL.of hD, fun U hU => ?_⟩⟩
  have S1 := same_new hU (.tup ((iN xs).map V.int))
  exact q U xs _ (b1.trans (same_but S1)) (p1.same S1) upd_same hl hb
omit B in
theorem grid_lc {σ : L2.St} {H : Hp} {Q : VK} {r k a j : Nat} {p : Addr} {n m : Nat} (hp : PotAt H p) (hr : σ[r]? = some (some (.int n)))
    (ha : ∀ x, ((wipe σ [k]).set k x)[a]? = some (some (.int m))) (h0 : ∀ x y, ((wipe ((wipe σ [k]).set k x) [j]).set j y)[0]? = some (some (.ref p))) (hb : ∀ x y, ((wipe ((wipe σ [k]).set k x) [j]).set j y)[a]? = some (some (.int m))) (hn : n ≤ 100) (m1 : 1 ≤ m) (mb : m ≤ 100)
    (q : ∀ T (rs : List (Addr × List Nat)) H', But p H H' → PotAt H' p → T ≠ p → GridAt H' T rs m m → rs.length = n → Q (.ref T) H') :
    tCB (rTupOf K) (tCons (tLc (iRng1 (tCons (tVar r) tNil)) (gName k) tYes (tCB (rTupOf K) (tCons (tLc (iRng1 (tCons (tVar a) tNil)) (gName j) tYes (tCall spTake [] E0 (tCons (tVar 0) (tCons (tVar a) tNil))) [j]) tNil)) [k]) tNil) σ H Q := by
  refine ⟨_, hr, _, rfl, by omega, by omega, fun D hD => ?_⟩
  have e : ((n : Int)).toNat = n := Int.toNat_natCast n
  rw [e]
  have np := pot_ne hp hD
  refine lc_range (lo := 0) (n := n) (fun i H3 => ∃ rs : List (Addr × List Nat), But p H H3 ∧ PotAt H3 p ∧ H3 D = some (.lst (rs.map fun x => .ref x.1)) ∧ rs.length = i ∧ ∀ x ∈ rs, H3 x.1 = some (.tup ((iN x.2).map V.int)) ∧ x.2.length = m ∧ ∀ e ∈ x.2, e < m) ⟨[], same_but (same_new hD _), hp.same (same_new hD _), upd_same, rfl, fun x hx => nomatch hx⟩ ?_ ?_
  · rintro i H3 hi ⟨rs, b3, p3, hD3, hl, hrs⟩
    refine ⟨?_, ?_⟩
    · show ((σ.set k none).set k _).set k none = σ.set k none
      rw [List.set_set, List.set_set]
    unfold tYes
    dsimp only
    rw [if_pos rfl]
    unfold tCB tCons
    refine row_lc p3 (ha _) (h0 _) (hb _) (by omega) m1 mb fun D2 xs H4 b4 p4 nD2 hD4 hl4 hb4 => ?_
    refine ⟨D2, _, rfl, .inl ⟨SqL.of hD4, fun T hT => ?_⟩⟩
    have S5 := same_new hT (.tup ((iN xs).map V.int))
    have hD5 := S5 _ _ (b4 _ _ np hD3)
    obtain ⟨_, _, hp3, _⟩ := id p3
    have nTD : T ≠ D := fun z => by rw [z] at hT; rw [b4 _ _ np hD3] at hT; cases hT
    refine ⟨_, hD5, small1000 (by rw [List.length_map]; omega), rs ++ [(T, xs)], but_upd hD (b3.trans (b4.trans (same_but S5))), (p4.same S5).upd np.symm, by rw [upd_same, List.map_append] <;> rfl, by rw [List.length_append, hl] <;> rfl, fun x hx => ?_⟩
    rcases List.mem_append.mp hx with h | h
    · obtain ⟨g1, g2⟩ := hrs x h
      have g3 := S5 _ _ (b4 _ _ (ne_of g1 hp3 (by intro z; cases z)) g1)
      exact ⟨by rw [upd_ne (ne_of g3 hD5 (by intro z; cases z))]; exact g3, g2⟩
    · cases List.mem_singleton.mp h
      exact ⟨by rw [upd_ne nTD, upd_same], hl4, hb4⟩
  · rintro H3 ⟨rs, b3, p3, hD3, hl, hrs⟩
    refine ⟨D, _, rfl, .inl ⟨SqL.of hD3, fun T hT => ?_⟩⟩
    have S4 := same_new hT (.tup (rs.map fun x => .ref x.1))
    exact q T rs _ (b3.trans (same_but S4)) (p3.same S4) (pot_ne p3 hT) ⟨upd_same, fun x hx => ⟨S4 _ _ (hrs x hx).1, (hrs x hx).2⟩⟩ hl
omit B in
theorem GridAt.but {H H' : Hp} {p T : Addr} {ys : List V} {rs : List (Addr × List Nat)} {M B : Nat} (e : But p H H') (hp : H p = some (.lst ys)) (h : GridAt H T rs M B) : GridAt H' T rs M B :=
  ⟨e _ _ (ne_of h.top hp (by intro z; cases z)) h.top, fun x hx => ⟨e _ _ (ne_of (h.rows x hx).1 hp (by intro z; cases z)) (h.rows x hx).1, (h.rows x hx).2⟩⟩
def spRight (K : PySem.W.Frag) : Sp := fun vs H Q _ => ∃ (p : Addr), vs = [.ref p] ∧ PotAt H p ∧ ∀ H', But p H H' → Q (.bl true) H'
theorem k__law_right (D : Df K mg "_law_right" s__law_right ["_law_store_here"]) (D__law_draw : Dn P w K mg base 1 "_law_draw" ["_law_store_here", "_law_many"] spTake) (D__law_tree : Dn P w K mg base 42 "_law_tree" ["_law_store_here", "_law_first", "_law_many"] (spLT6 40)) (D__law_turned_about : Dn P w K mg base 1 "_law_turned_about" ["_law_many"] spAbout) (D__law_folded : Dn P w K mg base 41 "_law_folded" ["_law_table", "_law_numbers", "_law_tree_here"] ((spFold6 K) 40)) (D__law_shared : Dn P w K mg base 82 "_law_shared" ["_law_deeds", "_law_table", "_law_numbers", "_law_tree_here", "_law_state"] ((spShared6 K) 40)) (D_folded_by : Dn P w K mg base 47 "folded_by" ["table", "numbers", "tree"] (spFoldBy K)) (D_shared_by : Dn P w K mg base 84 "shared_by" ["deeds", "table", "numbers", "tree", "state"] (spShareBy K)) : Dn P w K mg base 86 "_law_right" ["_law_store_here"] (spRight K) := by
  refine D.ok fun f fd F => okG0 F sc__law_right (fun vs H Q E h => ?_) (fun cdv A outer s H vs Q E hr h => ⟨_, (pss_cons (ps_set (i := 1) sc__law_right.nd rfl (Or.inl rfl) (pe_cD D__law_draw (hr.less (by decide)) rfl (pa_cons (pv 0) (pa_cons pe_int pa_nil))))
    (pss_cons (ps_set (i := 2) sc__law_right.nd rfl (Or.inl rfl) (pe_op op_add pe_int (pe_op op_mulX (pe_cD D__law_draw (hr.less (by decide)) rfl (pa_cons (pv 0) (pa_cons pe_int pa_nil))) (pe_callTy call_int1 (by rfl) B.int_ (by decide +kernel) (pa_cons (pe_cmpR op_ne (pv 1) pe_int (nomark _)) pa_nil)))))
    (pss_cons (ps_set (i := 3) sc__law_right.nd rfl (Or.inr rfl) (pe_op op_add pe_int (pe_cD D__law_draw (hr.less (by decide)) rfl (pa_cons (pv 0) (pa_cons pe_int pa_nil)))))
    (pss_cons (ps_set (i := 4) sc__law_right.nd rfl (Or.inr rfl) (pe_op op_add pe_int (pe_cD D__law_draw (hr.less (by decide)) rfl (pa_cons (pv 0) (pa_cons pe_int pa_nil)))))
    (pss_cons (ps_set (i := 5) sc__law_right.nd rfl (Or.inl rfl) (pe_callTy (tupOfK (K := K)) (by rfl) B.tuple_ (by decide +kernel) (pa_cons (pe_lc (own := [("_law_k", 11)]) (g := gName 11) (tt := tYes) rfl sc__law_right.nd (pi_range1 (by rfl) B.range_ (pa_cons (pv 4) pa_nil)) (blkOk_by (own := [("_law_k", 11)]) (N := ["_law_store_here", "_law_choice", "_law_many", "_law_states", "_law_rows", "_law_deeds", "_law_table", "_law_numbers", "_law_start", "_law_tree_here", "_law_turn", "_law_k", "_law_state", "_law_i", "_law_j"]) (sc := defScope s__law_right) (by decide +kernel)) (fun _ _ _ _ _ => (pg_name (i := 11) sc__law_right.nd rfl (Or.inl rfl))) (fun _ _ _ _ _ => pts_nil) (fun _ _ _ _ _ => (pe_callTy (tupOfK (K := K)) (by rfl) B.tuple_ (by decide +kernel) (pa_cons (pe_lc (own := [("_law_state", 12)]) (g := gName 12) (tt := tYes) rfl sc__law_right.nd (pi_range1 (by rfl) B.range_ (pa_cons (pv 3) pa_nil)) (blkOk_nest (own := [("_law_state", 12)]) (N := ["_law_store_here", "_law_choice", "_law_many", "_law_states", "_law_rows", "_law_deeds", "_law_table", "_law_numbers", "_law_start", "_law_tree_here", "_law_turn", "_law_k", "_law_state", "_law_i", "_law_j"]) rfl (by decide +kernel)) (fun _ _ _ _ _ => (pg_name (i := 12) sc__law_right.nd rfl (Or.inl rfl))) (fun _ _ _ _ _ => pts_nil) (fun _ _ _ _ _ => (pe_cD D__law_draw (hr.less (by decide)) rfl (pa_cons (pv 0) (pa_cons (pv 3) pa_nil))))) pa_nil)))) pa_nil)))
    (pss_cons (ps_set (i := 6) sc__law_right.nd rfl (Or.inl rfl) (pe_callTy (tupOfK (K := K)) (by rfl) B.tuple_ (by decide +kernel) (pa_cons (pe_lc (own := [("_law_i", 13)]) (g := gName 13) (tt := tYes) rfl sc__law_right.nd (pi_range1 (by rfl) B.range_ (pa_cons (pv 4) pa_nil)) (blkOk_by (own := [("_law_i", 13)]) (N := ["_law_store_here", "_law_choice", "_law_many", "_law_states", "_law_rows", "_law_deeds", "_law_table", "_law_numbers", "_law_start", "_law_tree_here", "_law_turn", "_law_k", "_law_state", "_law_i", "_law_j"]) (sc := defScope s__law_right) (by decide +kernel)) (fun _ _ _ _ _ => (pg_name (i := 13) sc__law_right.nd rfl (Or.inl rfl))) (fun _ _ _ _ _ => pts_nil) (fun _ _ _ _ _ => (pe_callTy (tupOfK (K := K)) (by rfl) B.tuple_ (by decide +kernel) (pa_cons (pe_lc (own := [("_law_j", 14)]) (g := gName 14) (tt := tYes) rfl sc__law_right.nd (pi_range1 (by rfl) B.range_ (pa_cons (pv 4) pa_nil)) (blkOk_nest (own := [("_law_j", 14)]) (N := ["_law_store_here", "_law_choice", "_law_many", "_law_states", "_law_rows", "_law_deeds", "_law_table", "_law_numbers", "_law_start", "_law_tree_here", "_law_turn", "_law_k", "_law_state", "_law_i", "_law_j"]) rfl (by decide +kernel)) (fun _ _ _ _ _ => (pg_name (i := 14) sc__law_right.nd rfl (Or.inl rfl))) (fun _ _ _ _ _ => pts_nil) (fun _ _ _ _ _ => (pe_cD D__law_draw (hr.less (by decide)) rfl (pa_cons (pv 0) (pa_cons (pv 4) pa_nil))))) pa_nil)))) pa_nil)))
    (pss_cons (ps_set (i := 7) sc__law_right.nd rfl (Or.inl rfl) (pe_callTy (tupOfK (K := K)) (by rfl) B.tuple_ (by decide +kernel) (pa_cons (pe_lc (own := [("_law_k", 11)]) (g := gName 11) (tt := tYes) rfl sc__law_right.nd (pi_range1 (by rfl) B.range_ (pa_cons (pv 2) pa_nil)) (blkOk_by (own := [("_law_k", 11)]) (N := ["_law_store_here", "_law_choice", "_law_many", "_law_states", "_law_rows", "_law_deeds", "_law_table", "_law_numbers", "_law_start", "_law_tree_here", "_law_turn", "_law_k", "_law_state", "_law_i", "_law_j"]) (sc := defScope s__law_right) (by decide +kernel)) (fun _ _ _ _ _ => (pg_name (i := 11) sc__law_right.nd rfl (Or.inl rfl))) (fun _ _ _ _ _ => pts_nil) (fun _ _ _ _ _ => (pe_cD D__law_draw (hr.less (by decide)) rfl (pa_cons (pv 0) (pa_cons (pv 4) pa_nil))))) pa_nil)))
    (pss_cons (ps_set (i := 8) sc__law_right.nd rfl (Or.inl rfl) (pe_cD D__law_draw (hr.less (by decide)) rfl (pa_cons (pv 0) (pa_cons (pv 3) pa_nil))))
    (pss_cons (ps_set (i := 9) sc__law_right.nd rfl (Or.inl rfl) (pe_cD D__law_turned_about (hr.less (by decide)) rfl (pa_cons (pv 2) pa_nil)))
    (C8.pss_cut (ps_if (pt_cmpR op_ne (pv 1) pe_int (nomark _))
      (pss_one (ps_set (i := 9) sc__law_right.nd rfl (Or.inl rfl) (pe_cD D__law_tree (hr.less (by decide)) rfl (pa_cons (pv 0) (pa_cons pe_int (pa_cons (pv 2) pa_nil))))))
      pss_nil)
    (pss_cons (ps_for PassesOwn.never rfl (pi_range1 (by rfl) B.range_ (pa_cons pe_int pa_nil)) (pg_name (i := 10) sc__law_right.nd rfl (Or.inl rfl))
      (pss_cons (ps_if (pt_cmpR op_ne (pe_callB (reprK (K := K) hr) (by rfl) B.repr_ (by decide +kernel) (pa_cons (pe_cD D_folded_by (hr.less (by decide)) rfl (pa_cons (pv 6) (pa_cons (pv 7) (pa_cons (pv 9) pa_nil)))) pa_nil)) (pe_callB (reprK (K := K) hr) (by rfl) B.repr_ (by decide +kernel) (pa_cons (pe_cD D__law_folded (hr.less (by decide)) rfl (pa_cons (pv 6) (pa_cons (pv 7) (pa_cons (pv 9) pa_nil)))) pa_nil)) (nomark _))
        (pss_one (ps_ret pe_bl))
        pss_nil)
      (pss_one (ps_if (pt_cmpR op_ne (pe_callB (reprK (K := K) hr) (by rfl) B.repr_ (by decide +kernel) (pa_cons (pe_cD D_shared_by (hr.less (by decide)) rfl (pa_cons (pv 5) (pa_cons (pv 6) (pa_cons (pv 7) (pa_cons (pv 9) (pa_cons (pv 8) pa_nil)))))) pa_nil)) (pe_callB (reprK (K := K) hr) (by rfl) B.repr_ (by decide +kernel) (pa_cons (pe_cD D__law_shared (hr.less (by decide)) rfl (pa_cons (pv 5) (pa_cons (pv 6) (pa_cons (pv 7) (pa_cons (pv 9) (pa_cons (pv 8) pa_nil)))))) pa_nil)) (nomark _))
       (pss_one (ps_ret pe_bl))
       pss_nil))))
    (pss_one (ps_ret pe_bl))))))))))))), ?_⟩)
  · obtain ⟨p, rfl, _⟩ := h; rfl
  · obtain ⟨p, rfl, hp, q⟩ := h
    refine ⟨_, rfl, p, 8, rfl, hp, by decide, by decide, fun ch H1 c8 b1 p1 => ?_⟩
    refine ⟨_, rfl, p, 40, rfl, p1, by decide, by decide, fun mm H2 m40 b2 p2 => ?_⟩
    refine ⟨_, rfl, rfl, .inr ⟨_, rfl, ?_⟩⟩
    refine ⟨_, _, rfl, rfl, mulx 10 2 (by omega) (by split <;> decide), _, _, rfl, rfl, ?_⟩
    obtain ⟨m, hm, m1, m40'⟩ : ∃ m : Nat, (1 : Int) + (mm : Int) * (if (!decide (V.int (ch : Int) = V.int 7)) = true then 1 else 0) = (m : Int) ∧ 1 ≤ m ∧ m ≤ 40 := by
      split
      · exact ⟨1 + mm, by omega, by omega, by omega⟩
      · exact ⟨1, by omega, by omega, by omega⟩
    refine ⟨_, rfl, p, 5, rfl, p2, by decide, by decide, fun s' H3 s5 b3 p3 => ⟨_, _, rfl, rfl, ?_⟩⟩
    refine ⟨_, rfl, p, 16, rfl, p3, by decide, by decide, fun n' H4 n16 b4 p4 => ⟨_, _, rfl, rfl, ?_⟩⟩
    obtain ⟨S, hS, S1, S5⟩ : ∃ S : Nat, (1 : Int) + (s' : Int) = (S : Int) ∧ 1 ≤ S ∧ S ≤ 5 := ⟨1 + s', by omega, by omega, by omega⟩
    obtain ⟨N, hN, N1, N16⟩ : ∃ N : Nat, (1 : Int) + (n' : Int) = (N : Int) ∧ 1 ≤ N ∧ N ≤ 16 := ⟨1 + n', by omega, by omega, by omega⟩
    dsimp only
    rw [hm, hS, hN]
    have B4 := b1.trans (b2.trans (b3.trans b4))
    clear b1 b2 b3 b4 p1 p2 p3 hm hS hN
    refine grid_lc (n := N) (m := S) p4 rfl (fun _ => rfl) (fun _ _ => rfl) (fun _ _ => rfl) (by omega) S1 (by omega) fun D qs H5 b5 p5 nD gD hlD => ?_
    refine grid_lc (n := N) (m := N) p5 rfl (fun _ => rfl) (fun _ _ => rfl) (fun _ _ => rfl) (by omega) N1 (by omega) fun T rs H6 b6 p6 nT gT hlT => ?_
    refine rowT_lc (n := m) (m := N) p6 rfl (fun _ => rfl) (fun _ => rfl) (by omega) N1 (by omega) fun U ns H8 b7 p8 hU8 hl7 hb7 => ?_
    obtain ⟨_, _, hp5, _⟩ := id p5
    obtain ⟨_, _, hp6, _⟩ := id p6
    have gD8 := (gD.but b6 hp5).but b7 hp6
    have gT8 := gT.but b7 hp6
    have B8 := B4.trans (b5.trans (b6.trans b7))
    clear gD gT B4 b5 b6 b7 p5 p6 p4 hp5 hp6
    refine ⟨_, rfl, _, rfl, p, S, rfl, p8, by omega, Int.lt_of_le_of_lt (b := 5) (by omega) (by decide), fun s H9 hs b9 p9 => ?_⟩
    obtain ⟨_, _, hp8, _⟩ := id p8
    have gD9 := gD8.but b9 hp8
    have gT9 := gT8.but b9 hp8
    have hU9 := b9 _ _ (ne_of hU8 hp8 (by intro z; cases z)) hU8
    have B9 := B8.trans b9
    refine ⟨_, rfl, m, rfl, m1, m40', fun v t H10 S10 ht hr hc => ?_⟩
    have p10 := p9.same S10
    obtain ⟨_, _, hp10, _⟩ := id p10
    refine ⟨fun σ H' => ∃ v t, σ = [some (.ref p), some (.int ch), some (.int m), some (.int S), some (.int N), some (.ref D), some (.ref T), some (.ref U), some (.int s), some v, none, none, none, none, none] ∧ But p H10 H' ∧ TrAt H' v t ∧ IsRow t 0 ∧ t.cnt = m, ?_, ?_⟩
    · refine ⟨_, rfl, rfl, _, rfl, ite2 (fun c => ?_) (fun c => ?_)⟩
      · exact ⟨_, rfl, _, rfl, p, 0, m, rfl, p10, m1, by omega, by omega, fun v2 t2 H11 b11 p11 k1 k2 k3 => ⟨v2, t2, rfl, b11, k1, k2, k3⟩⟩
      · exact ⟨v, t, rfl, But.refl, ht, hr, hc⟩
    clear ht hr hc
    rintro _ H11 ⟨v, t, rfl, b11, ht, hr, hc⟩
    have gD11 := (gD9.same S10).but b11 hp10
    have gT11 := (gT9.same S10).but b11 hp10
    have hU11 := b11 _ _ (ne_of (S10 _ _ hU9) hp10 (by intro z; cases z)) (S10 _ _ hU9)
    have B11 := B9.trans ((same_but S10).trans b11)
    have hb16 : Bel ns N := hb7
    have hfv := fv_lt gT11 hlT hb16 hr (by omega)
    have shF := nat_sh (n := fv (gr rs) ns t) (by omega)
    have shS := nats_sh (xs := sv (gr qs) (gr rs) ns t s) (fun x hx => Nat.lt_trans (sv_in gT11 hlT gD11 hlD hb16 hr (by omega) (by omega) x hx) (by omega)) (by rw [sv_len]; omega)
    refine ⟨_, rfl, by decide, by decide, ?_⟩
    refine for_range (lo := 0) (n := 2) (fun i σ H' => ∃ v10 : Option V, σ = [some (.ref p), some (.int ch), some (.int m), some (.int S), some (.int N), some (.ref D), some (.ref T), some (.ref U), some (.int s), some v, v10, none, none, none, none] ∧ Same H11 H') ⟨none, rfl, Same.refl _⟩ ?_ ?_
    · rintro i σ H12 hi ⟨v10, rfl, S12⟩
      refine ⟨_, rfl, _, rfl, _, rfl, T, U, rs, N, ns, v, t, rfl, gT11.same S12, hlT, N1, by omega, S12 _ _ hU11, hb16, by omega, by omega, ht.same S12, hr, by omega, fun H13 S13 => ?_⟩
      have S113 := S12.trans S13
      refine rep_ (.int _) shF (q := ⟨_, rfl, _, rfl, _, rfl, T, U, rs, N, ns, v, t, 0, rfl, gT11.same S113, hlT, S113 _ _ hU11, hb16, ht.same S113, hr, by omega, Nat.le_trans t.h_cnt (by omega), rep_ (.int _) shF (q := ⟨rfl, _, rfl, ifF (dec_ne rfl) ?_⟩)⟩)
      refine ⟨_, rfl, _, rfl, _, rfl, _, rfl, _, rfl, D, T, U, qs, rs, N, S, ns, v, t, s, rfl, gT11.same S113, hlT, N1, by omega, gD11.same S113, hlD, S1, S5, S113 _ _ hU11, hb16, by omega, by omega, ht.same S113, hr, by omega, by omega, fun L1 H14 S14 hL1 => ?_⟩
      have S114 := S113.trans S14
      refine rep_ (tupI_dp (SqT.of hL1)) shS (q := ⟨_, rfl, _, rfl, _, rfl, _, rfl, _, rfl, D, T, U, qs, rs, N, S, ns, v, t, 0, s, rfl, gT11.same S114, hlT, gD11.same S114, hlD, S114 _ _ hU11, hb16, ht.same S114, hr, by omega, by omega, Nat.le_trans t.h_cnt (by omega), by decide, by omega, fun L2 H15 S15 hL2 => ?_⟩)
      exact rep_ (tupI_dp (SqT.of hL2)) shS (q := ⟨rfl, _, rfl, ifF (dec_ne rfl) ⟨_, rfl, S114.trans S15⟩⟩)
    · rintro σ H12 ⟨v10, rfl, S12⟩
      exact q _ (B11.trans (same_but S12))
def spLaw (K : PySem.W.Frag) : Sp := fun vs H Q _ => ∃ (a : Addr) (ns : List Int), vs = [.ref a] ∧ SqL K H a (ns.map V.int) ∧ ns.length ≤ 63 ∧ ∀ H', Q (.bl true) H'
theorem k_law {f : Addr} {fd : FuncData} (F : Fun K "law" "law" s_law f fd) (D__law_store : Dn P w K mg base 1 "_law_store" ["_law_script", "_law_k"] (spPot6 K)) (D__law_right : Dn P w K mg base 86 "_law_right" ["_law_store_here"] (spRight K)) : FnG P w K mg base CX0 90 f fd ["_law_script"] (spLaw K) := by
  refine okG0 F sc_law (fun vs H Q E h => ?_) (fun cdv A outer s H vs Q E hr h => ⟨_, (pss_cons (ps_for PassesOwn.never rfl (pi_range1 (by rfl) B.range_ (pa_cons (pe_callB (call_max2 rfl) (by rfl) B.max_ (by decide +kernel) (pa_cons pe_int (pa_cons (pe_callB (call_min2 rfl) (by rfl) B.min_ (by decide +kernel) (pa_cons pe_int (pa_cons (pe_callB (lenK (K := K)) (by rfl) B.len_ (by decide +kernel) (pa_cons (pv 0) pa_nil)) pa_nil))) pa_nil))) pa_nil)) (pg_name (i := 1) sc_law.nd rfl (Or.inl rfl))
      (pss_one (ps_if (pt_not (pt_val (pe_cD D__law_right (hr.less (by decide)) rfl (pa_cons (pe_cD D__law_store (hr.less (by decide)) rfl (pa_cons (pv 0) (pa_cons (pv 1) pa_nil))) pa_nil))))
       (pss_one (ps_ret pe_bl))
       pss_nil)))
    (pss_one (ps_ret pe_bl))), ?_⟩)
  · obtain ⟨a, ns, rfl, _⟩ := h; rfl
  · obtain ⟨a, ns, rfl, hs, hn, q⟩ := h
    refine ⟨_, rfl, a, _, rfl, .inl hs, _, _, rfl, _, _, rfl, _, rfl, ?_, ?_, ?_⟩
    · split <;> split <;> omega
    · split <;> split <;> omega
    have hN : (if (if (((ns.map V.int).length : Nat) : Int) < 8 then (((ns.map V.int).length : Nat) : Int) else 8) > 1 then (if (((ns.map V.int).length : Nat) : Int) < 8 then (((ns.map V.int).length : Nat) : Int) else 8) else 1).toNat ≤ 8 := by split <;> split <;> omega
    generalize (if (if (((ns.map V.int).length : Nat) : Int) < 8 then (((ns.map V.int).length : Nat) : Int) else 8) > 1 then (if (((ns.map V.int).length : Nat) : Int) < 8 then (((ns.map V.int).length : Nat) : Int) else 8) else 1).toNat = n at hN
    refine for_range (lo := 0) (n := n) (fun i σ H2 => ∃ v1 : Option V, σ = [some (.ref a), v1] ∧ Same H H2) ⟨none, rfl, Same.refl H⟩ ?_ ?_
    · rintro i σ H2 hi ⟨v1, rfl, S2⟩
      refine ⟨_, rfl, _, rfl, a, ns, i, by show [V.ref a, V.int (0 + (i : Int))] = _; rw [Int.zero_add], S2.seq hs, by omega, fun p H3 np S3 p3 => ?_⟩
      exact ⟨p, rfl, p3, fun H4 b4 => ⟨_, rfl, iteF ⟨_, rfl, S2.trans (but_same np S3 b4)⟩⟩⟩
    · rintro σ H2 ⟨v1, rfl, S2⟩
      exact q _
end
structure AllD (K : PySem.W.Frag) (mg : Str → Option Value) : Prop where
  d_is_whole : Df K mg "is_whole" s_is_whole ["thing"]
  d_is_within : Df K mg "is_within" s_is_within ["thing", "least", "most"]
  d_want_within : Df K mg "want_within" s_want_within ["thing", "least", "most"]
  d_is_by_table : Df K mg "is_by_table" s_is_by_table ["thing", "states"]
  d_are_by_table : Df K mg "are_by_table" s_are_by_table ["thing", "most"]
  d_want_many : Df K mg "want_many" s_want_many ["many"]
  d_is_tree : Df K mg "is_tree" s_is_tree ["thing", "many"]
  d_are_numbers : Df K mg "are_numbers" s_are_numbers ["thing", "many"]
  d_is_table : Df K mg "is_table" s_is_table ["thing"]
  d_want_table : Df K mg "want_table" s_want_table ["table"]
  d_want_by_table : Df K mg "want_by_table" s_want_by_table ["deeds", "table"]
  d_want_numbers : Df K mg "want_numbers" s_want_numbers ["table", "numbers"]
  d_want_grouped : Df K mg "want_grouped" s_want_grouped ["numbers", "tree"]
  d_fold : Df K mg "fold" s_fold ["table", "numbers", "tree"]
  d_share : Df K mg "share" s_share ["deeds", "table", "numbers", "tree", "state"]
  d_folded_by : Df K mg "folded_by" s_folded_by ["table", "numbers", "tree"]
  d_shared_by : Df K mg "shared_by" s_shared_by ["deeds", "table", "numbers", "tree", "state"]
  d__law_store : Df K mg "_law_store" s__law_store ["_law_script", "_law_k"]
  d__law_draw : Df K mg "_law_draw" s__law_draw ["_law_store_here", "_law_many"]
  d__law_tree : Df K mg "_law_tree" s__law_tree ["_law_store_here", "_law_first", "_law_many"]
  d__law_turned_about : Df K mg "_law_turned_about" s__law_turned_about ["_law_many"]
  d__law_folded : Df K mg "_law_folded" s__law_folded ["_law_table", "_law_numbers", "_law_tree_here"]
  d__law_shared : Df K mg "_law_shared" s__law_shared ["_law_deeds", "_law_table", "_law_numbers", "_law_tree_here", "_law_state"]
  d__law_right : Df K mg "_law_right" s__law_right ["_law_store_here"]
  d_law : Df K mg "law" s_law ["_law_script"]
  bl : Bl K mg
theorem all_mk {w : World} {K : PySem.W.Frag} {h : Heap} {mg : Str → Option Value} (X : K.In h) (G : h.Ns mainGlobals mg)
    {f1 f2 f3 f4 f5 f6 f7 f8 f9 f10 f11 f12 f13 f14 f15 f16 f17 f18 f19 f20 f21 f22 f23 f24 f25 : Addr} {od1 an1 od2 an2 od3 an3 od4 an4 od5 an5 od6 an6 od7 an7 od8 an8 od9 an9 od10 an10 od11 an11 od12 an12 od13 an13 od14 an14 od15 an15 od16 an16 od17 an17 od18 an18 od19 an19 od20 an20 od21 an21 od22 an22 od23 an23 od24 an24 od25 an25 : Option Addr} {sl1 sl2 sl3 sl4 sl5 sl6 sl7 sl8 sl9 sl10 sl11 sl12 sl13 sl14 sl15 sl16 sl17 sl18 sl19 sl20 sl21 sl22 sl23 sl24 sl25 : Array (Option Value)} {oc1 kV1 dc1 pm1 cd1 ct1 oc2 kV2 dc2 pm2 cd2 ct2 oc3 kV3 dc3 pm3 cd3 ct3 oc4 kV4 dc4 pm4 cd4 ct4 oc5 kV5 dc5 pm5 cd5 ct5 oc6 kV6 dc6 pm6 cd6 ct6 oc7 kV7 dc7 pm7 cd7 ct7 oc8 kV8 dc8 pm8 cd8 ct8 oc9 kV9 dc9 pm9 cd9 ct9 oc10 kV10 dc10 pm10 cd10 ct10 oc11 kV11 dc11 pm11 cd11 ct11 oc12 kV12 dc12 pm12 cd12 ct12 oc13 kV13 dc13 pm13 cd13 ct13 oc14 kV14 dc14 pm14 cd14 ct14 oc15 kV15 dc15 pm15 cd15 ct15 oc16 kV16 dc16 pm16 cd16 ct16 oc17 kV17 dc17 pm17 cd17 ct17 oc18 kV18 dc18 pm18 cd18 ct18 oc19 kV19 dc19 pm19 cd19 ct19 oc20 kV20 dc20 pm20 cd20 ct20 oc21 kV21 dc21 pm21 cd21 ct21 oc22 kV22 dc22 pm22 cd22 ct22 oc23 kV23 dc23 pm23 cd23 ct23 oc24 kV24 dc24 pm24 cd24 ct24 oc25 kV25 dc25 pm25 cd25 ct25 : Value}
    (a1 : PySem.W.nsIn K mainGlobals "is_whole" = some (some (.ref f1))) (l1 : K.lookup f1 = some ⟨oc1, od1, .func (PySem.W.fnOf "is_whole" "is_whole" (defArgs s_is_whole) (defBody s_is_whole) (defScope s_is_whole) .none kV1 dc1 pm1 an1 cd1 ct1), sl1⟩) (c1 : PySem.W.codeIn K cd1 "is_whole" = true) (k1 : PySem.W.keepIn K (.ref f1) = true)
    (a2 : PySem.W.nsIn K mainGlobals "is_within" = some (some (.ref f2))) (l2 : K.lookup f2 = some ⟨oc2, od2, .func (PySem.W.fnOf "is_within" "is_within" (defArgs s_is_within) (defBody s_is_within) (defScope s_is_within) .none kV2 dc2 pm2 an2 cd2 ct2), sl2⟩) (c2 : PySem.W.codeIn K cd2 "is_within" = true) (k2 : PySem.W.keepIn K (.ref f2) = true)
    (a3 : PySem.W.nsIn K mainGlobals "want_within" = some (some (.ref f3))) (l3 : K.lookup f3 = some ⟨oc3, od3, .func (PySem.W.fnOf "want_within" "want_within" (defArgs s_want_within) (defBody s_want_within) (defScope s_want_within) .none kV3 dc3 pm3 an3 cd3 ct3), sl3⟩) (c3 : PySem.W.codeIn K cd3 "want_within" = true) (k3 : PySem.W.keepIn K (.ref f3) = true)
    (a4 : PySem.W.nsIn K mainGlobals "is_by_table" = some (some (.ref f4))) (l4 : K.lookup f4 = some ⟨oc4, od4, .func (PySem.W.fnOf "is_by_table" "is_by_table" (defArgs s_is_by_table) (defBody s_is_by_table) (defScope s_is_by_table) .none kV4 dc4 pm4 an4 cd4 ct4), sl4⟩) (c4 : PySem.W.codeIn K cd4 "is_by_table" = true) (k4 : PySem.W.keepIn K (.ref f4) = true)
    (a5 : PySem.W.nsIn K mainGlobals "are_by_table" = some (some (.ref f5))) (l5 : K.lookup f5 = some ⟨oc5, od5, .func (PySem.W.fnOf "are_by_table" "are_by_table" (defArgs s_are_by_table) (defBody s_are_by_table) (defScope s_are_by_table) .none kV5 dc5 pm5 an5 cd5 ct5), sl5⟩) (c5 : PySem.W.codeIn K cd5 "are_by_table" = true) (k5 : PySem.W.keepIn K (.ref f5) = true)
    (a6 : PySem.W.nsIn K mainGlobals "want_many" = some (some (.ref f6))) (l6 : K.lookup f6 = some ⟨oc6, od6, .func (PySem.W.fnOf "want_many" "want_many" (defArgs s_want_many) (defBody s_want_many) (defScope s_want_many) .none kV6 dc6 pm6 an6 cd6 ct6), sl6⟩) (c6 : PySem.W.codeIn K cd6 "want_many" = true) (k6 : PySem.W.keepIn K (.ref f6) = true)
    (a7 : PySem.W.nsIn K mainGlobals "is_tree" = some (some (.ref f7))) (l7 : K.lookup f7 = some ⟨oc7, od7, .func (PySem.W.fnOf "is_tree" "is_tree" (defArgs s_is_tree) (defBody s_is_tree) (defScope s_is_tree) .none kV7 dc7 pm7 an7 cd7 ct7), sl7⟩) (c7 : PySem.W.codeIn K cd7 "is_tree" = true) (k7 : PySem.W.keepIn K (.ref f7) = true)
    (a8 : PySem.W.nsIn K mainGlobals "are_numbers" = some (some (.ref f8))) (l8 : K.lookup f8 = some ⟨oc8, od8, .func (PySem.W.fnOf "are_numbers" "are_numbers" (defArgs s_are_numbers) (defBody s_are_numbers) (defScope s_are_numbers) .none kV8 dc8 pm8 an8 cd8 ct8), sl8⟩) (c8 : PySem.W.codeIn K cd8 "are_numbers" = true) (k8 : PySem.W.keepIn K (.ref f8) = true)
    (a9 : PySem.W.nsIn K mainGlobals "is_table" = some (some (.ref f9))) (l9 : K.lookup f9 = some ⟨oc9, od9, .func (PySem.W.fnOf "is_table" "is_table" (defArgs s_is_table) (defBody s_is_table) (defScope s_is_table) .none kV9 dc9 pm9 an9 cd9 ct9), sl9⟩) (c9 : PySem.W.codeIn K cd9 "is_table" = true) (k9 : PySem.W.keepIn K (.ref f9) = true)
    (a10 : PySem.W.nsIn K mainGlobals "want_table" = some (some (.ref f10))) (l10 : K.lookup f10 = some ⟨oc10, od10, .func (PySem.W.fnOf "want_table" "want_table" (defArgs s_want_table) (defBody s_want_table) (defScope s_want_table) .none kV10 dc10 pm10 an10 cd10 ct10), sl10⟩) (c10 : PySem.W.codeIn K cd10 "want_table" = true) (k10 : PySem.W.keepIn K (.ref f10) = true)
    (a11 : PySem.W.nsIn K mainGlobals "want_by_table" = some (some (.ref f11))) (l11 : K.lookup f11 = some ⟨oc11, od11, .func (PySem.W.fnOf "want_by_table" "want_by_table" (defArgs s_want_by_table) (defBody s_want_by_table) (defScope s_want_by_table) .none kV11 dc11 pm11 an11 cd11 ct11), sl11⟩) (c11 : PySem.W.codeIn K cd11 "want_by_table" = true) (k11 : PySem.W.keepIn K (.ref f11) = true)
    (a12 : PySem.W.nsIn K mainGlobals "want_numbers" = some (some (.ref f12))) (l12 : K.lookup f12 = some ⟨oc12, od12, .func (PySem.W.fnOf "want_numbers" "want_numbers" (defArgs s_want_numbers) (defBody s_want_numbers) (defScope s_want_numbers) .none kV12 dc12 pm12 an12 cd12 ct12), sl12⟩) (c12 : PySem.W.codeIn K cd12 "want_numbers" = true) (k12 : PySem.W.keepIn K (.ref f12) = true)
    (a13 : PySem.W.nsIn K mainGlobals "want_grouped" = some (some (.ref f13))) (l13 : K.lookup f13 = some ⟨oc13, od13, .func (PySem.W.fnOf "want_grouped" "want_grouped" (defArgs s_want_grouped) (defBody s_want_grouped) (defScope s_want_grouped) .none kV13 dc13 pm13 an13 cd13 ct13), sl13⟩) (c13 : PySem.W.codeIn K cd13 "want_grouped" = true) (k13 : PySem.W.keepIn K (.ref f13) = true)
    (a14 : PySem.W.nsIn K mainGlobals "fold" = some (some (.ref f14))) (l14 : K.lookup f14 = some ⟨oc14, od14, .func (PySem.W.fnOf "fold" "fold" (defArgs s_fold) (defBody s_fold) (defScope s_fold) .none kV14 dc14 pm14 an14 cd14 ct14), sl14⟩) (c14 : PySem.W.codeIn K cd14 "fold" = true) (k14 : PySem.W.keepIn K (.ref f14) = true)
    (a15 : PySem.W.nsIn K mainGlobals "share" = some (some (.ref f15))) (l15 : K.lookup f15 = some ⟨oc15, od15, .func (PySem.W.fnOf "share" "share" (defArgs s_share) (defBody s_share) (defScope s_share) .none kV15 dc15 pm15 an15 cd15 ct15), sl15⟩) (c15 : PySem.W.codeIn K cd15 "share" = true) (k15 : PySem.W.keepIn K (.ref f15) = true)
    (a16 : PySem.W.nsIn K mainGlobals "folded_by" = some (some (.ref f16))) (l16 : K.lookup f16 = some ⟨oc16, od16, .func (PySem.W.fnOf "folded_by" "folded_by" (defArgs s_folded_by) (defBody s_folded_by) (defScope s_folded_by) .none kV16 dc16 pm16 an16 cd16 ct16), sl16⟩) (c16 : PySem.W.codeIn K cd16 "folded_by" = true) (k16 : PySem.W.keepIn K (.ref f16) = true)
    (a17 : PySem.W.nsIn K mainGlobals "shared_by" = some (some (.ref f17))) (l17 : K.lookup f17 = some ⟨oc17, od17, .func (PySem.W.fnOf "shared_by" "shared_by" (defArgs s_shared_by) (defBody s_shared_by) (defScope s_shared_by) .none kV17 dc17 pm17 an17 cd17 ct17), sl17⟩) (c17 : PySem.W.codeIn K cd17 "shared_by" = true) (k17 : PySem.W.keepIn K (.ref f17) = true)
    (a18 : PySem.W.nsIn K mainGlobals "_law_store" = some (some (.ref f18))) (l18 : K.lookup f18 = some ⟨oc18, od18, .func (PySem.W.fnOf "_law_store" "_law_store" (defArgs s__law_store) (defBody s__law_store) (defScope s__law_store) .none kV18 dc18 pm18 an18 cd18 ct18), sl18⟩) (c18 : PySem.W.codeIn K cd18 "_law_store" = true) (k18 : PySem.W.keepIn K (.ref f18) = true)
    (a19 : PySem.W.nsIn K mainGlobals "_law_draw" = some (some (.ref f19))) (l19 : K.lookup f19 = some ⟨oc19, od19, .func (PySem.W.fnOf "_law_draw" "_law_draw" (defArgs s__law_draw) (defBody s__law_draw) (defScope s__law_draw) .none kV19 dc19 pm19 an19 cd19 ct19), sl19⟩) (c19 : PySem.W.codeIn K cd19 "_law_draw" = true) (k19 : PySem.W.keepIn K (.ref f19) = true)
    (a20 : PySem.W.nsIn K mainGlobals "_law_tree" = some (some (.ref f20))) (l20 : K.lookup f20 = some ⟨oc20, od20, .func (PySem.W.fnOf "_law_tree" "_law_tree" (defArgs s__law_tree) (defBody s__law_tree) (defScope s__law_tree) .none kV20 dc20 pm20 an20 cd20 ct20), sl20⟩) (c20 : PySem.W.codeIn K cd20 "_law_tree" = true) (k20 : PySem.W.keepIn K (.ref f20) = true)
    (a21 : PySem.W.nsIn K mainGlobals "_law_turned_about" = some (some (.ref f21))) (l21 : K.lookup f21 = some ⟨oc21, od21, .func (PySem.W.fnOf "_law_turned_about" "_law_turned_about" (defArgs s__law_turned_about) (defBody s__law_turned_about) (defScope s__law_turned_about) .none kV21 dc21 pm21 an21 cd21 ct21), sl21⟩) (c21 : PySem.W.codeIn K cd21 "_law_turned_about" = true) (k21 : PySem.W.keepIn K (.ref f21) = true)
    (a22 : PySem.W.nsIn K mainGlobals "_law_folded" = some (some (.ref f22))) (l22 : K.lookup f22 = some ⟨oc22, od22, .func (PySem.W.fnOf "_law_folded" "_law_folded" (defArgs s__law_folded) (defBody s__law_folded) (defScope s__law_folded) .none kV22 dc22 pm22 an22 cd22 ct22), sl22⟩) (c22 : PySem.W.codeIn K cd22 "_law_folded" = true) (k22 : PySem.W.keepIn K (.ref f22) = true)
    (a23 : PySem.W.nsIn K mainGlobals "_law_shared" = some (some (.ref f23))) (l23 : K.lookup f23 = some ⟨oc23, od23, .func (PySem.W.fnOf "_law_shared" "_law_shared" (defArgs s__law_shared) (defBody s__law_shared) (defScope s__law_shared) .none kV23 dc23 pm23 an23 cd23 ct23), sl23⟩) (c23 : PySem.W.codeIn K cd23 "_law_shared" = true) (k23 : PySem.W.keepIn K (.ref f23) = true)
    (a24 : PySem.W.nsIn K mainGlobals "_law_right" = some (some (.ref f24))) (l24 : K.lookup f24 = some ⟨oc24, od24, .func (PySem.W.fnOf "_law_right" "_law_right" (defArgs s__law_right) (defBody s__law_right) (defScope s__law_right) .none kV24 dc24 pm24 an24 cd24 ct24), sl24⟩) (c24 : PySem.W.codeIn K cd24 "_law_right" = true) (k24 : PySem.W.keepIn K (.ref f24) = true)
    (a25 : PySem.W.nsIn K mainGlobals "law" = some (some (.ref f25))) (l25 : K.lookup f25 = some ⟨oc25, od25, .func (PySem.W.fnOf "law" "law" (defArgs s_law) (defBody s_law) (defScope s_law) .none kV25 dc25 pm25 an25 cd25 ct25), sl25⟩) (c25 : PySem.W.codeIn K cd25 "law" = true) (k25 : PySem.W.keepIn K (.ref f25) = true)
    (z0 : PySem.W.nsIn K mainGlobals "abs" = some none)
    (z1 : PySem.W.nsIn K mainGlobals "all" = some none)
    (z2 : PySem.W.nsIn K mainGlobals "bool" = some none)
    (z3 : PySem.W.nsIn K mainGlobals "int" = some none)
    (z4 : PySem.W.nsIn K mainGlobals "isinstance" = some none)
    (z5 : PySem.W.nsIn K mainGlobals "len" = some none)
    (z6 : PySem.W.nsIn K mainGlobals "max" = some none)
    (z7 : PySem.W.nsIn K mainGlobals "min" = some none)
    (z8 : PySem.W.nsIn K mainGlobals "range" = some none)
    (z9 : PySem.W.nsIn K mainGlobals "repr" = some none)
    (z10 : PySem.W.nsIn K mainGlobals "tuple" = some none)
    {tc0 : Tok} (cst0 : PySem.W.nsIn K mainGlobals "MOST_STATES" = some (some (.int 5 tc0)))
    {tc1 : Tok} (cst1 : PySem.W.nsIn K mainGlobals "MOST_FAMILY" = some (some (.int 60 tc1)))
    {tc2 : Tok} (cst2 : PySem.W.nsIn K mainGlobals "MOST_DEEDS" = some (some (.int 40 tc2)))
    {tc3 : Tok} (cst3 : PySem.W.nsIn K mainGlobals "MOST_NUMBERS" = some (some (.int 40 tc3)))
    : AllD K mg := by
  exact ⟨Df.of l1 c1 k1 (PySem.W.mg_of X G a1) (fun _ _ _ _ _ _ us hl => match us, hl with | [_], _ => rfl), Df.of l2 c2 k2 (PySem.W.mg_of X G a2) (fun _ _ _ _ _ _ us hl => match us, hl with | [_, _, _], _ => rfl), Df.of l3 c3 k3 (PySem.W.mg_of X G a3) (fun _ _ _ _ _ _ us hl => match us, hl with | [_, _, _], _ => rfl), Df.of l4 c4 k4 (PySem.W.mg_of X G a4) (fun _ _ _ _ _ _ us hl => match us, hl with | [_, _], _ => rfl), Df.of l5 c5 k5 (PySem.W.mg_of X G a5) (fun _ _ _ _ _ _ us hl => match us, hl with | [_, _], _ => rfl), Df.of l6 c6 k6 (PySem.W.mg_of X G a6) (fun _ _ _ _ _ _ us hl => match us, hl with | [_], _ => rfl), Df.of l7 c7 k7 (PySem.W.mg_of X G a7) (fun _ _ _ _ _ _ us hl => match us, hl with | [_, _], _ => rfl), Df.of l8 c8 k8 (PySem.W.mg_of X G a8) (fun _ _ _ _ _ _ us hl => match us, hl with | [_, _], _ => rfl), Df.of l9 c9 k9 (PySem.W.mg_of X G a9) (fun _ _ _ _ _ _ us hl => match us, hl with | [_], _ => rfl), Df.of l10 c10 k10 (PySem.W.mg_of X G a10) (fun _ _ _ _ _ _ us hl => match us, hl with | [_], _ => rfl), Df.of l11 c11 k11 (PySem.W.mg_of X G a11) (fun _ _ _ _ _ _ us hl => match us, hl with | [_, _], _ => rfl), Df.of l12 c12 k12 (PySem.W.mg_of X G a12) (fun _ _ _ _ _ _ us hl => match us, hl with | [_, _], _ => rfl), Df.of l13 c13 k13 (PySem.W.mg_of X G a13) (fun _ _ _ _ _ _ us hl => match us, hl with | [_, _], _ => rfl), Df.of l14 c14 k14 (PySem.W.mg_of X G a14) (fun _ _ _ _ _ _ us hl => match us, hl with | [_, _, _], _ => rfl), Df.of l15 c15 k15 (PySem.W.mg_of X G a15) (fun _ _ _ _ _ _ us hl => match us, hl with | [_, _, _, _, _], _ => rfl), Df.of l16 c16 k16 (PySem.W.mg_of X G a16) (fun _ _ _ _ _ _ us hl => match us, hl with | [_, _, _], _ => rfl), Df.of l17 c17 k17 (PySem.W.mg_of X G a17) (fun _ _ _ _ _ _ us hl => match us, hl with | [_, _, _, _, _], _ => rfl), Df.of l18 c18 k18 (PySem.W.mg_of X G a18) (fun _ _ _ _ _ _ us hl => match us, hl with | [_, _], _ => rfl), Df.of l19 c19 k19 (PySem.W.mg_of X G a19) (fun _ _ _ _ _ _ us hl => match us, hl with | [_, _], _ => rfl), Df.of l20 c20 k20 (PySem.W.mg_of X G a20) (fun _ _ _ _ _ _ us hl => match us, hl with | [_, _, _], _ => rfl), Df.of l21 c21 k21 (PySem.W.mg_of X G a21) (fun _ _ _ _ _ _ us hl => match us, hl with | [_], _ => rfl), Df.of l22 c22 k22 (PySem.W.mg_of X G a22) (fun _ _ _ _ _ _ us hl => match us, hl with | [_, _, _], _ => rfl), Df.of l23 c23 k23 (PySem.W.mg_of X G a23) (fun _ _ _ _ _ _ us hl => match us, hl with | [_, _, _, _, _], _ => rfl), Df.of l24 c24 k24 (PySem.W.mg_of X G a24) (fun _ _ _ _ _ _ us hl => match us, hl with | [_], _ => rfl), Df.of l25 c25 k25 (PySem.W.mg_of X G a25) (fun _ _ _ _ _ _ us hl => match us, hl with | [_], _ => rfl), ⟨PySem.W.mg_none_of X G z0, PySem.W.mg_none_of X G z1, PySem.W.mg_none_of X G z2, PySem.W.mg_none_of X G z3, PySem.W.mg_none_of X G z4, PySem.W.mg_none_of X G z5, PySem.W.mg_none_of X G z6, PySem.W.mg_none_of X G z7, PySem.W.mg_none_of X G z8, PySem.W.mg_none_of X G z9, PySem.W.mg_none_of X G z10, ⟨_, PySem.W.mg_of X G cst0⟩, ⟨_, PySem.W.mg_of X G cst1⟩, ⟨_, PySem.W.mg_of X G cst2⟩, ⟨_, PySem.W.mg_of X G cst3⟩⟩⟩

theorem law_fd {P : Program} {w : World} {K : PySem.W.Frag} {mg : Str → Option Value} {fa : Addr} (A : AllD K mg) (hfa : mg "law" = some (.ref fa)) :
    ∃ fd : FuncData, (∀ (s : Shared) (v : Value), BindsTo s fd ⟨[v], []⟩ [("_law_script", v)]) ∧ ∀ base : Heap, K.In base → base.Ns mainGlobals mg → FnG P w K mg base CX0 90 fa fd ["_law_script"] (spLaw K) := by
  obtain ⟨f, fd, F, m, b⟩ := A.d_law.ex
  have e := hfa.symm.trans m
  cases e
  refine ⟨fd, fun s v => by obtain ⟨oc, od, kV, doc, pm, an, cdv, ct, osl, rfl, lk, hcd⟩ := F.ex; exact .of_eq rfl, fun base _ _ => ?_⟩
  have B := A.bl
  have D_is_whole : Dn P w K mg base 1 "is_whole" ["thing"] spIsWhole := k_is_whole B A.d_is_whole 
  have D_is_within : Dn P w K mg base 2 "is_within" ["thing", "least", "most"] spIsWithin := k_is_within B A.d_is_within D_is_whole
  have D_want_within : Dn P w K mg base 3 "want_within" ["thing", "least", "most"] spWantWithin := k_want_within B A.d_want_within D_is_within
  have D_want_many : Dn P w K mg base 4 "want_many" ["many"] spWantMany := k_want_many B A.d_want_many D_want_within
  have D_is_tree : Dn P w K mg base 5 "is_tree" ["thing", "many"] spIsTree := k_is_tree B A.d_is_tree D_want_many D_is_whole
  have D_are_numbers : Dn P w K mg base 2 "are_numbers" ["thing", "many"] (spAreNums K) := k_are_numbers B A.d_are_numbers D_is_whole
  have D_is_table : Dn P w K mg base 3 "is_table" ["thing"] (spIsTable K) := k_is_table B A.d_is_table D_are_numbers
  have D_want_table : Dn P w K mg base 4 "want_table" ["table"] (spWantTable K) := k_want_table B A.d_want_table D_is_table
  have D_is_by_table : Dn P w K mg base 2 "is_by_table" ["thing", "states"] (spIsByTable K) := k_is_by_table B A.d_is_by_table D_is_whole
  have D_are_by_table : Dn P w K mg base 3 "are_by_table" ["thing", "most"] (spAreByTable K) := k_are_by_table B A.d_are_by_table D_is_by_table
  have D_want_by_table : Dn P w K mg base 5 "want_by_table" ["deeds", "table"] (spWantBy K) := k_want_by_table B A.d_want_by_table D_want_table D_are_by_table
  have D_want_numbers : Dn P w K mg base 3 "want_numbers" ["table", "numbers"] (spWantNums K) := k_want_numbers B A.d_want_numbers D_are_numbers
  have D_want_grouped : Dn P w K mg base 6 "want_grouped" ["numbers", "tree"] (spGrouped K) := k_want_grouped B A.d_want_grouped D_is_tree
  have D_fold : Dn P w K mg base 41 "fold" ["table", "numbers", "tree"] ((spFold6 K) 40) := k_fold B A.d_fold 
  have D_share : Dn P w K mg base 82 "share" ["deeds", "table", "numbers", "tree", "state"] ((spShare6 K) 40) := k_share B A.d_share D_fold
  have D_folded_by : Dn P w K mg base 47 "folded_by" ["table", "numbers", "tree"] (spFoldBy K) := k_folded_by B A.d_folded_by D_want_table D_want_numbers D_want_grouped D_fold
  have D_shared_by : Dn P w K mg base 84 "shared_by" ["deeds", "table", "numbers", "tree", "state"] (spShareBy K) := k_shared_by B A.d_shared_by D_want_by_table D_want_numbers D_are_numbers D_want_grouped D_share
  have D__law_store : Dn P w K mg base 1 "_law_store" ["_law_script", "_law_k"] (spPot6 K) := k__law_store B A.d__law_store 
  have D__law_draw : Dn P w K mg base 1 "_law_draw" ["_law_store_here", "_law_many"] spTake := k__law_draw B A.d__law_draw 
  have D__law_tree : Dn P w K mg base 42 "_law_tree" ["_law_store_here", "_law_first", "_law_many"] (spLT6 40) := k__law_tree B A.d__law_tree D__law_draw
  have D__law_turned_about : Dn P w K mg base 1 "_law_turned_about" ["_law_many"] spAbout := k__law_turned_about B A.d__law_turned_about 
  have D__law_folded : Dn P w K mg base 41 "_law_folded" ["_law_table", "_law_numbers", "_law_tree_here"] ((spFold6 K) 40) := k__law_folded B A.d__law_folded 
  have D__law_shared : Dn P w K mg base 82 "_law_shared" ["_law_deeds", "_law_table", "_law_numbers", "_law_tree_here", "_law_state"] ((spShared6 K) 40) := k__law_shared B A.d__law_shared D__law_folded
  have D__law_right : Dn P w K mg base 86 "_law_right" ["_law_store_here"] (spRight K) := k__law_right B A.d__law_right D__law_draw D__law_tree D__law_turned_about D__law_folded D__law_shared D_folded_by D_shared_by
  exact k_law B F D__law_store D__law_right

theorem walk {l : PySem.W.OpenLaw} {q : Program} {loose : List Str} {XP : (Str → Option Value) → Heap → Prop} {YP : World → Heap → Prop} {d : DefRec} {K : Params → PySem.W.Frag} (hn : l.most = some 63) (hdf : d.params.defaults = [])
    (hY : ∀ (w : World) (h : Heap), YP w h → (K w.params).In h) (hname : d.name = "law") (F : ∀ (w : World) (mg : Str → Option Value) (h : Heap), (K w.params).In h → h.Ns mainGlobals mg → AllD (K w.params) mg) :
    PySem.W.WalkO q loose XP YP l.row.toRowW d [] (fun f vs => PySem.call f vs) :=
  walk_G (n := 63) (k := 90) (x := "_law_script") (sp := spLaw) hn (by decide) hdf ⟨rfl, by decide, by decide⟩ hY
    (fun w mg fa h KX G hfa => law_fd (F w mg h KX G) (by rw [hname] at hfa; exact hfa)) fun _ _ a ns hl hS => ⟨a, ns, rfl, hS, hl, fun _ => rfl⟩
end Toy
open PySem PySem.W PyProof.Rows
set_option maxRecDepth 100000 in
set_option maxHeartbeats 0 in
theorem PySem.Challenge.cw_joinedasks_k66_asks_by_any_table_holds : PySem.Challenge.rw_joinedasks_k66_asks_by_any_table.Holds := by
  w_on; o_law; k_head; (case hw => w_witness2)
  k_fill
  refine Toy.walk (l := PySem.Challenge.rw_joinedasks_k66_asks_by_any_table) rfl rfl (fun w h Y => PySem.W.kIn_of Y) rfl ?F
  case F =>
    intro w mg h KX G
    refine' Toy.all_mk (w := w) KX G ?a1 ?l1 ?c1 ?k1 ?a2 ?l2 ?c2 ?k2 ?a3 ?l3 ?c3 ?k3 ?a4 ?l4 ?c4 ?k4 ?a5 ?l5 ?c5 ?k5 ?a6 ?l6 ?c6 ?k6 ?a7 ?l7 ?c7 ?k7 ?a8 ?l8 ?c8 ?k8 ?a9 ?l9 ?c9 ?k9 ?a10 ?l10 ?c10 ?k10 ?a11 ?l11 ?c11 ?k11 ?a12 ?l12 ?c12 ?k12 ?a13 ?l13 ?c13 ?k13 ?a14 ?l14 ?c14 ?k14 ?a15 ?l15 ?c15 ?k15 ?a16 ?l16 ?c16 ?k16 ?a17 ?l17 ?c17 ?k17 ?a18 ?l18 ?c18 ?k18 ?a19 ?l19 ?c19 ?k19 ?a20 ?l20 ?c20 ?k20 ?a21 ?l21 ?c21 ?k21 ?a22 ?l22 ?c22 ?k22 ?a23 ?l23 ?c23 ?k23 ?a24 ?l24 ?c24 ?k24 ?a25 ?l25 ?c25 ?k25 ?z0 ?z1 ?z2 ?z3 ?z4 ?z5 ?z6 ?z7 ?z8 ?z9 ?z10 ?cst0 ?cst1 ?cst2 ?cst3
    (case a1 => k_is)
    (case l1 => k_is)
    (case c1 => k_is)
    (case k1 => k_is)
    (case a2 => k_is)
    (case l2 => k_is)
    (case c2 => k_is)
    (case k2 => k_is)
    (case a3 => k_is)
    (case l3 => k_is)
    (case c3 => k_is)
    (case k3 => k_is)
    (case a4 => k_is)
    (case l4 => k_is)
    (case c4 => k_is)
    (case k4 => k_is)
    (case a5 => k_is)
    (case l5 => k_is)
    (case c5 => k_is)
    (case k5 => k_is)
    (case a6 => k_is)
    (case l6 => k_is)
    (case c6 => k_is)
    (case k6 => k_is)
    (case a7 => k_is)
    (case l7 => k_is)
    (case c7 => k_is)
    (case k7 => k_is)
    (case a8 => k_is)
    (case l8 => k_is)
    (case c8 => k_is)
    (case k8 => k_is)
    (case a9 => k_is)
    (case l9 => k_is)
    (case c9 => k_is)
    (case k9 => k_is)
    (case a10 => k_is)
    (case l10 => k_is)
    (case c10 => k_is)
    (case k10 => k_is)
    (case a11 => k_is)
    (case l11 => k_is)
    (case c11 => k_is)
    (case k11 => k_is)
    (case a12 => k_is)
    (case l12 => k_is)
    (case c12 => k_is)
    (case k12 => k_is)
    (case a13 => k_is)
    (case l13 => k_is)
    (case c13 => k_is)
    (case k13 => k_is)
    (case a14 => k_is)
    (case l14 => k_is)
    (case c14 => k_is)
    (case k14 => k_is)
    (case a15 => k_is)
    (case l15 => k_is)
    (case c15 => k_is)
    (case k15 => k_is)
    (case a16 => k_is)
    (case l16 => k_is)
    (case c16 => k_is)
    (case k16 => k_is)
    (case a17 => k_is)
    (case l17 => k_is)
    (case c17 => k_is)
    (case k17 => k_is)
    (case a18 => k_is)
    (case l18 => k_is)
    (case c18 => k_is)
    (case k18 => k_is)
    (case a19 => k_is)
    (case l19 => k_is)
    (case c19 => k_is)
    (case k19 => k_is)
    (case a20 => k_is)
    (case l20 => k_is)
    (case c20 => k_is)
    (case k20 => k_is)
    (case a21 => k_is)
    (case l21 => k_is)
    (case c21 => k_is)
    (case k21 => k_is)
    (case a22 => k_is)
    (case l22 => k_is)
    (case c22 => k_is)
    (case k22 => k_is)
    (case a23 => k_is)
    (case l23 => k_is)
    (case c23 => k_is)
    (case k23 => k_is)
    (case a24 => k_is)
    (case l24 => k_is)
    (case c24 => k_is)
    (case k24 => k_is)
    (case a25 => k_is)
    (case l25 => k_is)
    (case c25 => k_is)
    (case k25 => k_is)
    (case z0 => k_is)
    (case z1 => k_is)
    (case z2 => k_is)
    (case z3 => k_is)
    (case z4 => k_is)
    (case z5 => k_is)
    (case z6 => k_is)
    (case z7 => k_is)
    (case z8 => k_is)
    (case z9 => k_is)
    (case z10 => k_is)
    (case cst0 => k_is)
    (case cst1 => k_is)
    (case cst2 => k_is)
    (case cst3 => k_is)
#print axioms PySem.Challenge.cw_joinedasks_k66_asks_by_any_table_holds

