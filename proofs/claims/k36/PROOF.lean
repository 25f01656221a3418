import PyProof.Rows.All
import Wide.All
import OpenK.AllK
import Wide.FinOn
import HandS.ForMost
import HandS.Defaults
import HandS.WideBits
import HandS.Conv
import HandS.IsInst
import HandS.RaiseMore
import HandS.SortInts
import HandS.Style
import HandS.Codes
import HandS.ForExc
import HandS.TryMany
import HandS.Flow
import KE.KEqSeq
import PyProof.ReprRoads
import KE.GoesMore
import KE.KDictZip
import PyProof.ListNew
import HandS.SetFor
import HandS.Zip
import HandS.TupAny
import HandS.TupLen
import KE.KDictDisplayH
import KE.KDictSum
import HandS.Sort
import HandS.More
import HandS.Text
import HandS.Strs
import HandS.Iter
import HandS.DictTup
import PyProof.DictMoreH
import PySem.Challenge.RW_joinedasks_k36_whole_each_switch_two_han
set_option Elab.async false
set_option linter.all false
set_option maxRecDepth 100000
set_option maxHeartbeats 4000000
set_option exponentiation.threshold 100000
namespace Toy
open PySem PySem.Spec PyProof.Rows L2
/-- a def of the text stands behind its name -/
structure Df (K : PySem.W.Frag) (mg : Str → Option Value) (x : Str) (st : Stmt) (ps : List Str) : Prop where
  ex : ∃ f fd, Fun K x x st f fd ∧ mg x = some (.ref f) ∧ Binds K fd ps []
theorem Df.of {K : PySem.W.Frag} {mg : Str → Option Value} {x : Str} {st : Stmt} {ps : List Str} {f : Addr} {oc : Value} {od an : Option Addr} {osl : Array (Option Value)} {kV doc pm cdv ct : Value}
    (l : K.lookup f = some ⟨oc, od, .func (PySem.W.fnOf x x (defArgs st) (defBody st) (defScope st) .none kV doc pm an cdv ct), osl⟩) (c : PySem.W.codeIn K cdv x = true) (k : PySem.W.keepIn K (.ref f) = true) (m : mg x = some (.ref f))
    (h : ∀ (kV doc pm : Value) (an : Option Addr) (cdv ct : Value) (us : List Value), us.length = ps.length → bindArgs (PySem.W.fnOf x x (defArgs st) (defBody st) (defScope st) .none kV doc pm an cdv ct) ⟨us, []⟩ = pure (ps.zip us)) : Df K mg x st ps :=
  ⟨_, _, fun_mk l c k, m, (fun_mk l c k).binds h⟩
end Toy
namespace Toy
open PySem PySem.Spec PyProof.Rows L2
/-- room for calls, and nothing is being shown (repr, str of containers ask that) -/
structure RoomG (k : Nat) (A : Around) : Prop where
  room : Room k A
  idle : A.guards = some []
theorem RoomG.less {j k : Nat} {A : Around} (r : RoomG k A) (h : j ≤ k) : RoomG j A := ⟨r.room.mono h, r.idle⟩
theorem RoomG.units {k : Nat} {A : Around} (r : RoomG k A) : A.units + 64 < cLine := r.room.units
theorem RoomG.in_ {k : Nat} {A : Around} (r : RoomG (k + 1) A) (env : Env) : RoomG k (A.deeper env) := ⟨r.room.deeper env, r.idle⟩
/-- a def's promise under such a call -/
structure FnG (P : Program) (w : World) (K : PySem.W.Frag) (mg : Str → Option Value) (base : Heap) (CX : CXT) (k : Nat) (f : Addr) (fd : FuncData) (ps : List Str) (sp : Sp) : Prop where
  arity : ∀ vs H Q E, sp vs H Q E → vs.length = ps.length
  go : ∀ {A : Around} {outer : List Env} {s : Shared} {H : Hp} {args : Args} {us : List Value} {vs : List V} {Q : VK} {E : XK}, RoomG k A → Env0 P w K mg base A outer s H →
    BindsTo s fd args (ps.zip us) → Vals vs us → sp vs H Q E → codeAny (model P w) A (.call (.ref f) args) (CR CX outer P w H s Q E) s
section
variable {P : Program} {w : World} {K : PySem.W.Frag} {mg : Str → Option Value} {base : Heap} {CX : CXT}
/-- a body that ends well ends the call well -/
theorem flow_end {N : List Str} {qual : Str} {scope : Scope} {f : Addr} {cd : Value} {A : Around} {outer : List Env} {s : Shared} {H : Hp} {Q : VK} {E : XK} {fl : Flow} {s' : Shared}
    (h : SP (cxOf CX P w K mg base N qual scope f cd A outer s H E) [] { nx := fun _ H' => Q .non H', rt := Q } fl s') :
    ∃ u, (fl = .next ∧ u = Value.none ∨ fl = .ret u) ∧ CE outer P w H s Q u s' := by
  cases fl with
  | next =>
    obtain ⟨σ, H1, J, q⟩ := h
    exact ⟨_, .inl ⟨rfl, rfl⟩, .non, H1, J.os, J.bare, J.base, J.hok, rfl, q⟩
  | ret u =>
    obtain ⟨v, σ, H1, J, r, q⟩ := h
    exact ⟨u, .inr rfl, v, H1, J.os, J.bare, J.base, J.hok, r, q⟩
  | brk =>
    obtain ⟨_, _, _, q⟩ := h
    cases q
  | cont =>
    obtain ⟨_, _, _, q⟩ := h
    cases q
/-- a def of the text, whatever its defaults -/
structure FunA (K : PySem.W.Frag) (x qual : Str) (st : Stmt) (f : Addr) (fd : FuncData) : Prop where
  ex : ∃ (oc : Value) (od : Option Addr) (dV kV doc pm : Value) (an : Option Addr) (cdv ct : Value) (osl : Array (Option Value)),
    fd = PySem.W.fnOf x qual (defArgs st) (defBody st) (defScope st) dV kV doc pm an cdv ct ∧ K.lookup f = some ⟨oc, od, .func fd, osl⟩ ∧ PySem.W.codeIn K cdv qual = true
theorem toA {K : PySem.W.Frag} {x qual : Str} {st : Stmt} {f : Addr} {fd : FuncData} (F : Fun K x qual st f fd) : FunA K x qual st f fd := by
  obtain ⟨oc, od, kV, doc, pm, an, cdv, ct, osl, e, lk, hcd⟩ := F.ex
  exact ⟨⟨oc, od, .none, kV, doc, pm, an, cdv, ct, osl, e, lk, hcd⟩⟩
theorem okGA {x qual : Str} {st : Stmt} {f : Addr} {fd : FuncData} {N ps : List Str} {k : Nat} {sp : Sp} (F : FunA K x qual st f fd) (S : FnScope N ps (defScope st)) (ar : ∀ vs H Q E, sp vs H Q E → vs.length = ps.length)
    (body : ∀ (cdv : Value) (A : Around) (outer : List Env) (s : Shared) (H : Hp) (vs : List V) (Q : VK) (E : XK), RoomG k (A.deeper (envOfC qual (defScope st) s.heap.objs.size f cdv)) → sp vs H Q E →
      ∃ t, PSs (cxOf CX P w K mg base N qual (defScope st) f cdv A outer s H E) (defBody st) t ∧ t { nx := fun _ H' => Q .non H', rt := Q } (start N vs) H) : FnG P w K mg base CX (k + 1) f fd ps sp := by
  obtain ⟨oc, od, dV, kV, doc, pm, an, cdv, ct, osl, rfl, lk, hcd⟩ := F.ex
  refine ⟨ar, ?_⟩
  intro A outer s H args us vs Q E room e0 hb rv hsp
  have kin : K.In s.heap := e0.mod.kin.keeps fun b o z => (e0.bs b o z).1
  have nolim : s.heap.NoLimit := e0.mod.nolimit.keeps fun b o z => (e0.bs b o z).1
  have kinds : ∀ y ∈ ps.zip us, (defScope st).names.lookup y.1 = some .local ∨ ((defScope st).names.lookup y.1 = some .cell ∧ ((cellsFrom (s.heap.objs.size + 1) (defScope st).names []).lookup y.1).isSome = true) := by
    rintro ⟨n, v⟩ hy
    exact (S.par n (List.of_mem_zip hy).1).imp _root_.id fun q => ⟨q, PySem.W.cellsFrom_some _ _ _ (.inl q)⟩
  refine codeAny_call_function room.room.depth (kin _ _ lk) rfl S.co S.gen rfl (PySem.W.codeRec_of kin hcd) (hb _ _ _ _ (wpAny_newFunctionEnv_cells S.kind kinds fun env he s1 inC => ?_))
  subst he
  obtain ⟨t, ht, hq⟩ := body cdv A outer s H vs Q E (room.in_ _) hsp
  refine ⟨nolim.keeps inC.toInCall.keep, codeAny_func (wpAny_mono (ht.run [] s1 (start N vs) H _ (inv_start S room.room.hd e0 (ar _ _ _ _ hsp) rv inC) hq) (fun fl s' z => ?_) fun e s' z => z)⟩
  obtain ⟨u, c, q⟩ := flow_end z
  rcases c with ⟨rfl, rfl⟩ | rfl
  · exact q
  · exact q
theorem okG0A {x qual : Str} {st : Stmt} {f : Addr} {fd : FuncData} {N ps : List Str} {k : Nat} {sp : Sp} (F : FunA K x qual st f fd) (S : FnScope N ps (defScope st)) (ar : ∀ vs H Q E, sp vs H Q E → vs.length = ps.length)
    (body : ∀ (cdv : Value) (A : Around) (outer : List Env) (s : Shared) (H : Hp) (vs : List V) (Q : VK) (E : XK), RoomG k (A.deeper (envOfC qual (defScope st) s.heap.objs.size f cdv)) → sp vs H Q E →
      ∃ t, PSs (cxOf CX0 P w K mg base N qual (defScope st) f cdv A outer s H E).nox (defBody st) t ∧ t { nx := fun _ H' => Q .non H', rt := Q } (start N vs) H) : FnG P w K mg base CX0 (k + 1) f fd ps sp :=
  okGA F S ar fun cdv A outer s H vs Q E hr hsp => (body cdv A outer s H vs Q E hr hsp).imp fun _ z => ⟨z.1.nox, z.2⟩
theorem okG {x qual : Str} {st : Stmt} {f : Addr} {fd : FuncData} {N ps : List Str} {k : Nat} {sp : Sp} (F : Fun K x qual st f fd) (S : FnScope N ps (defScope st)) (ar : ∀ vs H Q E, sp vs H Q E → vs.length = ps.length)
    (body : ∀ (cdv : Value) (A : Around) (outer : List Env) (s : Shared) (H : Hp) (vs : List V) (Q : VK) (E : XK), RoomG k (A.deeper (envOfC qual (defScope st) s.heap.objs.size f cdv)) → sp vs H Q E →
      ∃ t, PSs (cxOf CX P w K mg base N qual (defScope st) f cdv A outer s H E) (defBody st) t ∧ t { nx := fun _ H' => Q .non H', rt := Q } (start N vs) H) : FnG P w K mg base CX (k + 1) f fd ps sp :=
  okGA (toA F) S ar body
theorem okG0 {x qual : Str} {st : Stmt} {f : Addr} {fd : FuncData} {N ps : List Str} {k : Nat} {sp : Sp} (F : Fun K x qual st f fd) (S : FnScope N ps (defScope st)) (ar : ∀ vs H Q E, sp vs H Q E → vs.length = ps.length)
    (body : ∀ (cdv : Value) (A : Around) (outer : List Env) (s : Shared) (H : Hp) (vs : List V) (Q : VK) (E : XK), RoomG k (A.deeper (envOfC qual (defScope st) s.heap.objs.size f cdv)) → sp vs H Q E →
      ∃ t, PSs (cxOf CX0 P w K mg base N qual (defScope st) f cdv A outer s H E).nox (defBody st) t ∧ t { nx := fun _ H' => Q .non H', rt := Q } (start N vs) H) : FnG P w K mg base CX0 (k + 1) f fd ps sp :=
  okG0A (toA F) S ar body
end
section
variable {X : Cx} {CX : CXT} {k : Nat} {f : Addr} {fd : FuncData} {ps : List Str} {sp : Sp}
theorem run_G {pins : List (Addr × Obj)} {σ : L2.St} {H : Hp} {s : Shared} {Q : VK} {E : XK} {us : List Value} {vs : List V} (F : FnG X.prog X.w X.K X.mg X.base CX k f fd ps sp) (hr : RoomG k X.A) (hb : Binds X.K fd ps [])
    (out : ∀ e s', CX X.stack H s E e s' → X.xe e s') (I : Inv X pins σ H s) (r : Vals vs us) (h : sp vs H Q E) : wpAny (model X.prog X.w) X.A (call (.ref f) us) (EP X pins σ Q) X.xe s := by
  have n := (r.length).symm.trans (F.arity _ _ _ _ h)
  have b := hb s us I.kIn (by rw [List.append_nil, n])
  rw [List.append_nil] at b
  refine wpAny_call (codeAny_mono (F.go hr I.env0 b r h) ?_)
  rintro (e | fl) s' q
  · exact out e s' q
  · match fl, q with
    | .ret u, q => exact I.after q
/-- a def and its promise, by its name -/
structure Dn (P : Program) (w : World) (K : PySem.W.Frag) (mg : Str → Option Value) (base : Heap) (k : Nat) (x : Str) (ps : List Str) (sp : Sp) : Prop where
  ex : ∃ f fd, FnG P w K mg base CX0 k f fd ps sp ∧ PySem.W.keepIn K (.ref f) = true ∧ mg x = some (.ref f) ∧ Binds K fd ps []
/-- .. that may raise -/
structure Dx (P : Program) (w : World) (K : PySem.W.Frag) (mg : Str → Option Value) (base : Heap) (k : Nat) (x : Str) (ps : List Str) (sp : Sp) : Prop where
  ex : ∃ f fd, FnG P w K mg base (L2.CX P w) k f fd ps sp ∧ PySem.W.keepIn K (.ref f) = true ∧ mg x = some (.ref f) ∧ Binds K fd ps []
theorem Df.ok {P : Program} {w : World} {K : PySem.W.Frag} {mg : Str → Option Value} {base : Heap} {x : Str} {st : Stmt} (D : Df K mg x st ps)
    (h : ∀ f fd, Fun K x x st f fd → FnG P w K mg base CX0 k f fd ps sp) : Dn P w K mg base k x ps sp := by
  obtain ⟨f, fd, F, m, b⟩ := D.ex
  exact ⟨f, fd, h f fd F, F.kp, m, b⟩
theorem Df.okX {P : Program} {w : World} {K : PySem.W.Frag} {mg : Str → Option Value} {base : Heap} {x : Str} {st : Stmt} (D : Df K mg x st ps)
    (h : ∀ f fd, Fun K x x st f fd → FnG P w K mg base (L2.CX P w) k f fd ps sp) : Dx P w K mg base k x ps sp := by
  obtain ⟨f, fd, F, m, b⟩ := D.ex
  exact ⟨f, fd, h f fd F, F.kp, m, b⟩
variable {x : Str} {p pos : Pos} {e : Expr} {es : List Expr} {t : TA}
theorem pe_cD (D : Dn X.prog X.w X.K X.mg X.base k x ps sp) (hr : RoomG k X.A) (hg : Gl X x) (ha : PA X (e :: es) t) (hdb : (x == ("__debug__" : Str)) = false := by decide)
    (he : starEach (e :: es) X.env = (false, eval e X.env) :: starEach es X.env := by rfl) (hpl : (backTo pos (starEach es X.env)).any (·.1) = false := by rfl) : PE X (.Call (.Name x p) (e :: es) [] pos) (tCall sp [] E0 t) := by
  obtain ⟨f, fd, F, hk, hm, hb⟩ := D.ex
  refine ⟨fun pins s σ H Q I h => wpAny_Call_Name_kw (ld_glob I hg hm (PySem.W.callWith_K (h₀ := X.base) I.ok.mod.kin hk (thn (ha.run pos pins s σ H _ I h) fun us s1 ⟨vs, H1, I1, r, q⟩ => ⟨I1.kIn, ?_⟩) he hpl) hdb)⟩
  have q' : sp vs H1 Q E0 := by
    have z : sp (vs ++ []) H1 Q E0 := q
    rw [List.append_nil] at z
    exact z
  exact run_G F hr hb (fun _ _ z => z.elim) I1 r q'
theorem pe_cD0 (D : Dn X.prog X.w X.K X.mg X.base k x ps sp) (hr : RoomG k X.A) (hg : Gl X x) (hdb : (x == ("__debug__" : Str)) = false := by decide) : PE X (.Call (.Name x p) [] [] pos) (tCall sp [] E0 tNil) := by
  obtain ⟨f, fd, F, hk, hm, hb⟩ := D.ex
  refine ⟨fun pins s σ H Q I h => wpAny_Call_Name_kw (ld_glob I hg hm (PySem.W.callWith_K0 I.kIn hk (run_G (us := []) F hr hb (fun _ _ z => z.elim) I .nil h)) hdb)⟩
/-- a def with defaults: dvs fill up -/
structure Dfd (K : PySem.W.Frag) (mg : Str → Option Value) (x : Str) (st : Stmt) (ps : List Str) (dvs : List V) : Prop where
  ex : ∃ (f : Addr) (fd : FuncData) (ds : List Value), FunA K x x st f fd ∧ PySem.W.keepIn K (.ref f) = true ∧ mg x = some (.ref f) ∧ Binds K fd ps ds ∧ Vals dvs ds
theorem Dfd.of {K : PySem.W.Frag} {mg : Str → Option Value} {x : Str} {st : Stmt} {ps : List Str} {dvs : List V} {f T : Addr} {oc : Value} {od an : Option Addr} {osl : Array (Option Value)} {kV doc pm cdv ct : Value} {o : Obj} {its : List Value} {n m : Nat}
    (l : K.lookup f = some ⟨oc, od, .func (PySem.W.fnOf x x (defArgs st) (defBody st) (defScope st) (.ref T) kV doc pm an cdv ct), osl⟩) (c : PySem.W.codeIn K cdv x = true) (k : PySem.W.keepIn K (.ref f) = true) (mx : mg x = some (.ref f))
    (lT : K.lookup T = some o) (oT : o.data = .seq its.toArray m) (rT : Vals dvs its) (hn : n + dvs.length = ps.length)
    (h : ∀ (us : List Value), us.length = n → ∃ kk, bindArgs (PySem.W.fnOf x x (defArgs st) (defBody st) (defScope st) (.ref T) kV doc pm an cdv ct) ⟨us, []⟩ = seqItems? (.ref T) >>= kk ∧ kk (some its.toArray) = pure (ps.zip (us ++ its))) : Dfd K mg x st ps dvs := by
  refine ⟨f, _, its, ⟨⟨_, _, _, _, _, _, _, _, _, _, rfl, l, c⟩⟩, k, mx, fun s us X hlen => ?_, rT⟩
  have l1 := rT.length
  have l2 : us.length = n := by
    rw [List.length_append] at hlen
    omega
  obtain ⟨kk, e1, e2⟩ := h us l2
  refine BindsTo.of_looks fun M => ?_
  rw [e1]
  exact looks_items X lT oT (.of_pure e2)
/-- .. all parameters given -/
theorem Dfd.ofAll {K : PySem.W.Frag} {mg : Str → Option Value} {x : Str} {st : Stmt} {ps : List Str} {f T : Addr} {oc : Value} {od an : Option Addr} {osl : Array (Option Value)} {kV doc pm cdv ct : Value} {o : Obj} {its : List Value} {n m : Nat}
    (l : K.lookup f = some ⟨oc, od, .func (PySem.W.fnOf x x (defArgs st) (defBody st) (defScope st) (.ref T) kV doc pm an cdv ct), osl⟩) (c : PySem.W.codeIn K cdv x = true) (k : PySem.W.keepIn K (.ref f) = true) (mx : mg x = some (.ref f))
    (lT : K.lookup T = some o) (oT : o.data = .seq its.toArray m) (hn : n = ps.length)
    (h : ∀ (us : List Value), us.length = n → ∃ kk, bindArgs (PySem.W.fnOf x x (defArgs st) (defBody st) (defScope st) (.ref T) kV doc pm an cdv ct) ⟨us, []⟩ = seqItems? (.ref T) >>= kk ∧ kk (some its.toArray) = pure (ps.zip us)) : Dfd K mg x st ps [] := by
  refine ⟨f, _, [], ⟨⟨_, _, _, _, _, _, _, _, _, _, rfl, l, c⟩⟩, k, mx, fun s us X hlen => ?_, .nil⟩
  have l2 : us.length = n := by
    rw [List.append_nil] at hlen
    omega
  obtain ⟨kk, e1, e2⟩ := h us l2
  refine BindsTo.of_looks fun M => ?_
  rw [e1, List.append_nil]
  exact looks_items X lT oT (.of_pure e2)
/-- .. and its promise -/
structure DnD (P : Program) (w : World) (K : PySem.W.Frag) (mg : Str → Option Value) (base : Heap) (k : Nat) (x : Str) (ps : List Str) (dvs : List V) (sp : Sp) : Prop where
  ex : ∃ (f : Addr) (fd : FuncData) (ds : List Value), FnG P w K mg base CX0 k f fd ps sp ∧ PySem.W.keepIn K (.ref f) = true ∧ mg x = some (.ref f) ∧ Binds K fd ps ds ∧ Vals dvs ds
theorem Dfd.ok {P : Program} {w : World} {K : PySem.W.Frag} {mg : Str → Option Value} {base : Heap} {x : Str} {st : Stmt} {dvs : List V} (D : Dfd K mg x st ps dvs)
    (h : ∀ f fd, FunA K x x st f fd → FnG P w K mg base CX0 k f fd ps sp) : DnD P w K mg base k x ps dvs sp := by
  obtain ⟨f, fd, ds, F, kp, m, b, d⟩ := D.ex
  exact ⟨f, fd, ds, h f fd F, kp, m, b, d⟩
theorem run_Gd {pins : List (Addr × Obj)} {σ : L2.St} {H : Hp} {s : Shared} {Q : VK} {E : XK} {us ds : List Value} {vs dvs : List V} (F : FnG X.prog X.w X.K X.mg X.base CX k f fd ps sp) (hr : RoomG k X.A) (hb : Binds X.K fd ps ds) (hd : Vals dvs ds)
    (out : ∀ e s', CX X.stack H s E e s' → X.xe e s') (I : Inv X pins σ H s) (r : Vals vs us) (h : sp (vs ++ dvs) H Q E) : wpAny (model X.prog X.w) X.A (call (.ref f) us) (EP X pins σ Q) X.xe s := by
  have r2 : Vals (vs ++ dvs) (us ++ ds) := r.append hd
  have n : (us ++ ds).length = ps.length := by rw [← r2.length]; exact F.arity _ _ _ _ h
  refine wpAny_call (codeAny_mono (F.go hr I.env0 (hb s us I.kIn n) r2 h) ?_)
  rintro (e | fl) s' q
  · exact out e s' q
  · match fl, q with
    | .ret u, q => exact I.after q
theorem pe_cDd {dvs : List V} (D : DnD X.prog X.w X.K X.mg X.base k x ps dvs sp) (hr : RoomG k X.A) (hg : Gl X x) (ha : PA X (e :: es) t) (hdb : (x == ("__debug__" : Str)) = false := by decide)
    (he : starEach (e :: es) X.env = (false, eval e X.env) :: starEach es X.env := by rfl) (hpl : (backTo pos (starEach es X.env)).any (·.1) = false := by rfl) : PE X (.Call (.Name x p) (e :: es) [] pos) (tCall sp dvs E0 t) := by
  obtain ⟨f, fd, ds, F, hk, hm, hb, hd⟩ := D.ex
  refine ⟨fun pins s σ H Q I h => wpAny_Call_Name_kw (ld_glob I hg hm (PySem.W.callWith_K (h₀ := X.base) I.ok.mod.kin hk (thn (ha.run pos pins s σ H _ I h) fun us s1 ⟨vs, H1, I1, r, q⟩ => ⟨I1.kIn, ?_⟩) he hpl) hdb)⟩
  exact run_Gd F hr hb hd (fun _ _ z => z.elim) I1 r q
/-- a call within a try: what is raised is wished at the slots -/
theorem pe_cX {E : L2.St → XK} (D : Dx X.prog X.w X.K X.mg X.base k x ps sp) (hr : RoomG k X.A) (hg : Gl X x) (hx : ∀ σ, PassesAt (L2.CX X.prog X.w) X σ (E σ)) (ha : PA X (e :: es) t) (hdb : (x == ("__debug__" : Str)) = false := by decide)
    (he : starEach (e :: es) X.env = (false, eval e X.env) :: starEach es X.env := by rfl) (hpl : (backTo pos (starEach es X.env)).any (·.1) = false := by rfl) : PE X (.Call (.Name x p) (e :: es) [] pos) (tCallS sp E t) := by
  obtain ⟨f, fd, F, hk, hm, hb⟩ := D.ex
  exact ⟨fun pins s σ H Q I h => wpAny_Call_Name_kw (ld_glob I hg hm (PySem.W.callWith_K (h₀ := X.base) I.ok.mod.kin hk (thn (ha.run pos pins s σ H _ I h) fun us s1 ⟨vs, H1, I1, r, q⟩ =>
    ⟨I1.kIn, run_G F hr hb (fun e s' z => hx σ pins H1 s1 e s' I1 z) I1 r q⟩) he hpl) hdb)⟩
/-- repr of what is data -/
def rRepr (K : PySem.W.Frag) : List V → Hp → VK → Prop := fun xs H Q => ∃ (x : V) (d : PyData), xs = [x] ∧ Dp K H x d ∧ d.showable = true ∧ d.depth ≤ 60 ∧ d.shown.length ≤ sizeLine ∧ Q (.str d.shown) H
mutual
theorem dp_noDict {K : PySem.W.Frag} {H : Hp} : ∀ (d : PyData) (x : V), Dp K H x d → d.hasDict = false
  | .none, _, _ => rfl
  | .bool _, _, _ => rfl
  | .int _, _, _ => rfl
  | .str _, _, _ => rfl
  | .list ds, _, h => by
    cases h with
    | lst _ ha => simpa [PyData.hasDict] using dp_noDicts ds _ ha
  | .tuple ds, _, h => by
    cases h with
    | tup _ ha => simpa [PyData.hasDict] using dp_noDicts ds _ ha
  | .dict _, _, h => by cases h
theorem dp_noDicts {K : PySem.W.Frag} {H : Hp} : ∀ (ds : List PyData) (xs : List V), DpAll K H xs ds → PyData.hasDictAll ds = false
  | [], _, _ => by simp [PyData.hasDictAll]
  | d :: ds, _, h => by
    cases h with
    | cons a b => simp [PyData.hasDictAll, dp_noDict d _ a, dp_noDicts ds _ b]
end
theorem reprK {K : PySem.W.Frag} (hr : RoomG k X.A) (eK : X.K = K := by rfl) : CallR X (.builtin "repr") (rRepr K) := by
  cases eK
  intro pins s σ H xs us Q I r h
  obtain ⟨x, d, rfl, hd, hs, hdep, hz, q⟩ := h
  obtain ⟨u, rfl, rx⟩ := vals1 r
  obtain ⟨as, rd⟩ := Dp.reads I d x u hd rx
  have hu := hr.units
  have nd := dp_noDict d x hd
  cases hd with
  | non => cases rx; exact PySem.P.repr_of_none ⟨.str _, H, I.tok _, ⟨_, rfl⟩, q⟩
  | bl b => cases rx; exact PySem.P.repr_of_bool ⟨.str _, H, I.tok _, ⟨_, rfl⟩, q⟩
  | int i => obtain ⟨t, rfl⟩ := rx; exact PySem.P.repr_of_int (of_decide_eq_true (by simpa [PyData.showable] using hs)) ⟨.str _, H, I.tok _, ⟨_, rfl⟩, q⟩
  | str z => obtain ⟨t, rfl⟩ := rx; exact PySem.P.repr_of_str ⟨.str _, H, I.tok _, ⟨_, rfl⟩, q⟩ hz
  | lst hq ha =>
    cases rx
    refine repr_of_reads' rd hs (PyData.noDict_hsm nd) hr.idle (by omega) (fun _ _ z => z) (fun h' u tk hk => ⟨.str _, H, I.kept hk, ⟨_, rfl⟩, q⟩) hz
  | tup hq ha =>
    cases rx
    refine repr_of_reads' rd hs (PyData.noDict_hsm nd) hr.idle (by omega) (fun _ _ z => z) (fun h' u tk hk => ⟨.str _, H, I.kept hk, ⟨_, rfl⟩, q⟩) hz
end
end Toy
namespace Toy
open PySem PySem.Spec PyProof.Rows L2
/-- what was tracked stays, but for one object -/
def But (p : Addr) (H H' : Hp) : Prop := ∀ b o, b ≠ p → H b = some o → H' b = some o
theorem But.refl {p : Addr} {H : Hp} : But p H H := fun _ _ _ h => h
theorem But.trans {p : Addr} {H H1 H2 : Hp} (a : But p H H1) (b : But p H1 H2) : But p H H2 := fun c o n h => b c o n (a c o n h)
theorem But.free {p : Addr} {H H' : Hp} (e : But p H H') {l : Addr} (n : l ≠ p) (h : H' l = Option.none) : H l = Option.none := by
  cases q : H l with
  | none => rfl
  | some o =>
    rw [e l o n q] at h
    cases h
theorem same_but {p : Addr} {H H' : Hp} (a : Same H H') : But p H H' := fun c o _ h => a c o h
theorem But.upd {p : Addr} {H : Hp} {o : HO} : But p H (upd H p o) := fun b u n h => by rw [upd_ne n]; exact h
theorem same_new {H : Hp} {p : Addr} (h : H p = none) (o : HO) : Same H (upd H p o) := fun b u q => by rw [upd_ne (ne_of_none q h)]; exact q
theorem but_tup {p : Addr} {K : PySem.W.Frag} {H H' : Hp} {a : Addr} {xs ys : List V} (e : But p H H') (hp : H p = some (.lst ys)) (h : SqT K H a xs) : SqT K H' a xs := by
  rcases h with (h | ⟨o, h⟩) | h
  · exact .inl (.inl (e _ _ (ne_of h hp (by intro z; cases z)) h))
  · exact .inl (.inr ⟨o, e _ _ (ne_of h hp (by intro z; cases z)) h⟩)
  · exact .inr h
theorem same_tup {K : PySem.W.Frag} {H H' : Hp} {a : Addr} {xs : List V} (e : Same H H') (h : SqT K H a xs) : SqT K H' a xs := by
  rcases h with (h | ⟨o, h⟩) | h
  · exact .inl (.inl (e _ _ h))
  · exact .inl (.inr ⟨o, e _ _ h⟩)
  · exact .inr h
/-- the script stays -/
theorem but_seq {p : Addr} {K : PySem.W.Frag} {H H' : Hp} {a : Addr} {xs : List V} (e : But p H H') (n : a ≠ p) (h : SqL K H a xs) : SqL K H' a xs := by
  rcases h with (h | ⟨o, h⟩) | h
  · exact .inl (.inl (e _ _ n h))
  · exact .inl (.inr ⟨o, e _ _ n h⟩)
  · exact .inr h
theorem small {n : Nat} (h : n ≤ 1000) : n ≤ sizeLine := Nat.le_of_lt (small1000 h)
theorem log_lt {i : Int} {n : Nat} (h0 : 0 < n) (h : i.natAbs < 2 ^ n) : i.natAbs.log2 < n := PySem.Flt.log2_lt_of h0 h
theorem divp_small {i j : Int} (hj : 0 < j) (h : j < 2 ^ 8000) : CDivP i j := by
  refine ⟨hj, PyProof.noPylong_of_log2 ?_⟩
  exact Nat.lt_trans (log_lt (n := 8000) (by decide) (by omega)) (by decide)
end Toy
namespace Toy
open PySem PySem.Spec PyProof.Rows L2
theorem ifT {c : Bool} {A B : Prop} (hc : c = true) (h : A) : if c = true then A else B := by rw [if_pos hc]; exact h
theorem ifF {c : Bool} {A B : Prop} (hc : c = false) (h : B) : if c = true then A else B := by rw [hc]; exact iteF h
theorem pj {j : Int} (h : decide ((0 : Int) < j) = true := by decide) : 0 < j := of_decide_eq_true h
theorem sz {xs : List V} (h : Nat.ble xs.length 1000 = true := by rfl) : xs.length ≤ sizeLine := small (Nat.le_of_ble_eq_true h)
theorem but_same {p : Addr} {H H1 H2 : Hp} (n : H p = none) (a : Same H H1) (b : But p H1 H2) : Same H H2 := fun c o h => b c o (ne_of_none h n) (a c o h)
/-- two ways of a value meet -/
theorem ifE {ta tb : TE} {σ : L2.St} {H : Hp} {Q : VK} {b : Bool} (R : V → Hp → Prop) (h : ∀ v H', R v H' → Q v H') (h1 : b = true → ∀ Q' : VK, (∀ v H', R v H' → Q' v H') → ta σ H Q') (h2 : b = false → ∀ Q' : VK, (∀ v H', R v H' → Q' v H') → tb σ H Q') :
    if b = true then ta σ H Q else tb σ H Q := by
  cases b with
  | true => exact iteT (h1 rfl Q h)
  | false => exact iteF (h2 rfl Q h)
theorem mulx {i j : Int} (a b : Nat) (ha : i.natAbs < 2 ^ a) (hb : j.natAbs < 2 ^ b) (h : a + b ≤ 134217728 := by decide) : CMulX i j := mulx_ok ha hb h
end Toy
namespace Toy
open PySem PySem.Spec PyProof.Rows L2
theorem qi {Q : VK} {H : Hp} {a b : Int} (q : Q (.int a) H) (e : a = b) : Q (.int b) H := e ▸ q
end Toy
namespace Toy
open PySem PySem.Spec PyProof.Rows L2
/-- the written part by its letter -/
theorem kk {α : Sort _} {P : α → Prop} {F : PySem.W.Frag → α} {K0 K : PySem.W.Frag} (h : P (F K0)) (e : K0 = K := by rfl) : P (F K) := e ▸ h
def rLen (K : PySem.W.Frag) : List V → Hp → VK → Prop := fun xs H Q => ∃ p ys, xs = [.ref p] ∧ (SqL K H p ys ∨ SqT K H p ys) ∧ Q (.int ys.length) H
theorem lenK {X : Cx} {K : PySem.W.Frag} (e : X.K = K := by rfl) : CallR X (.builtin "len") (rLen K) := by cases e; exact call_len_seq
def rLstOf (K : PySem.W.Frag) : List V → Hp → VK → Prop := fun xs H Q => ∃ p ys, xs = [.ref p] ∧ (SqL K H p ys ∨ SqT K H p ys) ∧ ∀ l, H l = none → Q (.ref l) (upd H l (.lst ys))
theorem lstOfK {X : Cx} {K : PySem.W.Frag} (e : X.K = K := by rfl) : CallR X (.type "list") (rLstOf K) := by cases e; exact call_list_of
def rTupOf (K : PySem.W.Frag) : List V → Hp → VK → Prop := fun xs H Q => ∃ p ys, xs = [.ref p] ∧ ((SqL K H p ys ∧ ∀ l, H l = none → Q (.ref l) (upd H l (.tup ys))) ∨ (SqT K H p ys ∧ Q (.ref p) H))
theorem tupOfK {X : Cx} {K : PySem.W.Frag} (e : X.K = K := by rfl) : CallR X (.type "tuple") (rTupOf K) := by cases e; exact call_tuple_of
theorem dec_ne {α : Type} [DecidableEq α] {a b : α} (h : a = b) : (!decide (a = b)) = false := by rw [decide_eq_true h] <;> rfl
end Toy
namespace Toy
open PySem PySem.Spec PyProof.Rows L2
/-- a tuple of the written part; a tuple that never changes -/
def KTup (K : PySem.W.Frag) (a : Addr) (xs : List V) : Prop := ∃ (o : Obj) (its : Array Value) (n : Nat), K.lookup a = some o ∧ o.cls = .type "tuple" ∧ o.data = .seq its n ∧ its.size ≤ sizeLine ∧ Vals xs its.toList
def TupAt (K : PySem.W.Frag) (H : Hp) (a : Addr) (xs : List V) : Prop := H a = some (.tup xs) ∨ KTup K a xs
theorem TupAt.sq {K : PySem.W.Frag} {H : Hp} {a : Addr} {xs : List V} (h : TupAt K H a xs) : SqT K H a xs := by
  rcases h with h | h
  · exact SqT.of h
  · exact .inr h
theorem TupAt.ty {K : PySem.W.Frag} {H : Hp} {a : Addr} {xs : List V} (h : TupAt K H a xs) : TyX K H (.ref a) (.type "tuple") := by
  rcases h with h | ⟨o, its, n, h1, h2, _⟩
  · exact .base (.tup h)
  · exact .kTuple h1 h2
theorem TupAt.same {K : PySem.W.Frag} {H H' : Hp} {a : Addr} {xs : List V} (e : Same H H') (h : TupAt K H a xs) : TupAt K H' a xs := h.imp (e _ _) id
theorem TupAt.but {K : PySem.W.Frag} {H H' : Hp} {a p : Addr} {xs ys : List V} (e : But p H H') (hp : H p = some (.lst ys)) (h : TupAt K H a xs) : TupAt K H' a xs := h.imp (fun h => e _ _ (ne_of h hp (by intro z; cases z)) h) id
end Toy
namespace Toy
open PySem PySem.Spec PyProof.Rows L2
theorem ints_dp {K : PySem.W.Frag} {H : Hp} : ∀ ns : List Int, DpAll K H (ns.map V.int) (ns.map PyData.int)
  | [] => .nil
  | n :: r => .cons (.int n) (ints_dp r)
theorem ints_sh (ns : List Int) : SeqAt.shaped (.list (ns.map PyData.int)) = true := PySem.W.ke_shaped_ints ns
theorem ints_refl (ns : List Int) : PyData.eqv (.list (ns.map PyData.int)) (.list (ns.map PyData.int)) = true := SeqAt.eqv_refl _ (SeqAt.canLay_of_shaped (ints_sh ns))
theorem lst_dp {K : PySem.W.Frag} {H : Hp} {a : Addr} {ns : List Int} (h : SqL K H a (ns.map V.int)) : Dp K H (.ref a) (.list (ns.map PyData.int)) := .lst h (ints_dp ns)
theorem tupI_dp {K : PySem.W.Frag} {H : Hp} {a : Addr} {ns : List Int} (h : SqT K H a (ns.map V.int)) : Dp K H (.ref a) (.tuple (ns.map PyData.int)) := .tup h (ints_dp ns)
theorem tupI_sh (ns : List Int) : SeqAt.shaped (.tuple (ns.map PyData.int)) = true := ints_sh ns
theorem tupI_refl (ns : List Int) : PyData.eqv (.tuple (ns.map PyData.int)) (.tuple (ns.map PyData.int)) = true := SeqAt.eqv_refl _ (SeqAt.canLay_of_shaped (tupI_sh ns))
theorem cut_map (us : List Int) (lo hi : Option Int) : ∃ ws : List Int, cutV (us.map V.int) lo hi = ws.map V.int ∧ ws.length ≤ us.length ∧ ∀ x ∈ ws, x ∈ us := by
  refine ⟨(us.drop (HT.sIx (us.map V.int).length 0 lo)).take (HT.sIx (us.map V.int).length (us.map V.int).length hi - HT.sIx (us.map V.int).length 0 lo), ?_, ?_, fun x hx => List.mem_of_mem_drop (List.mem_of_mem_take hx)⟩
  · unfold cutV; rw [List.map_take, List.map_drop]
  · rw [List.length_take, List.length_drop]; omega
theorem at_map {us : List Int} {i : Nat} {y : V} (h : (us.map V.int)[i]? = some y) : ∃ x : Int, y = .int x ∧ us[i]? = some x := by
  rw [List.getElem?_map] at h
  cases e : us[i]? with
  | none => rw [e] at h; cases h
  | some x => rw [e] at h; exact ⟨x, (Option.some.inj h).symm, rfl⟩
end Toy
namespace Toy
open PySem PySem.Spec PyProof.Rows L2
/-- the heap in which the script alone stands, unless the text's own part holds it -/
def scriptH (K : PySem.W.Frag) (a : Addr) (o : Obj) (ns : List Int) : Hp := fun c => if (K.lookup a).isNone = true ∧ c = a then some (.frz o (.lst (ns.map V.int))) else none
theorem scriptH_none {K : PySem.W.Frag} {a b : Addr} {o : Obj} {ns : List Int} : scriptH K a o ns b = none ∨ (b = a ∧ K.lookup a = none ∧ scriptH K a o ns b = some (.frz o (.lst (ns.map V.int)))) := by
  unfold scriptH
  by_cases c : (K.lookup a).isNone = true ∧ b = a
  · exact .inr ⟨c.2, Option.isNone_iff_eq_none.mp c.1, if_pos c⟩
  · exact .inl (if_neg c)
theorem law_G {P : Program} {w : World} {K : PySem.W.Frag} {mg mb : Str → Option Value} {k : Nat} {fa a : Addr} {fd : FuncData} {x : Str} {sp : Sp} {s : Shared} {vs : List Value} {ns : List Int}
    (KX : K.In s.heap) (hns : s.heap.Ns mainGlobals mg) (hb : s.heap.Ns builtinsNs mb) (hbb : ∀ x : Str, x ≠ "__name__" → mb x = bootBuiltins x) (hlim : s.heap.NoLimit) (hg : s.gens = #[])
    (ha : s.heap.get? a = some { cls := .type "list", data := .seq vs.toArray }) (hi : IntsAre vs ns) (hl : ns.length ≤ sizeLine) (hr : Room k PySem.callerA)
    (F : ∀ base : Heap, K.In base → base.Ns mainGlobals mg → FnG P w K mg base CX0 k fa fd [x] sp) (hbind : ∀ (s : Shared) (u : Value), BindsTo s fd ⟨[u], []⟩ [(x, u)])
    (hsp : ∀ H : Hp, SqL K H a (ns.map V.int) → sp [.ref a] H (fun v _ => v = .bl true) fun _ _ _ => False) :
    codeAny (model P w) PySem.callerA (.call (.ref fa) ⟨[.ref a], []⟩) (fun r s' => r = .ok (.ret (.bool true)) ∧ OldK s.heap s'.heap ∧ s'.os = s.os ∧ AllBare s'.gens) s := by
  let H : Hp := scriptH K a { cls := .type "list", data := .seq vs.toArray } ns
  have hH : ∀ b, H b = none ∨ (b = a ∧ K.lookup a = none ∧ H b = some (.frz { cls := .type "list", data := .seq vs.toArray } (.lst (ns.map V.int)))) := fun b => scriptH_none
  have rv := vals_ints hi
  have hok : HOk P w H s.heap := by
    intro b u e
    rcases hH b with z | ⟨rfl, _, z⟩
    · rw [z] at e; cases e
    · rw [z] at e
      cases e
      exact ⟨ha, by rw [List.length_map]; exact hl, vs, _, rv, ha⟩
  have hS : SqL K H a (ns.map V.int) := by
    cases q : K.lookup a with
    | none => exact .inl (.inr ⟨_, show scriptH K a _ ns a = _ from if_pos ⟨by rw [q] <;> rfl, rfl⟩⟩)
    | some o =>
      have e := KX a o q
      rw [ha] at e
      cases e
      exact .inr ⟨_, vs.toArray, _, q, rfl, rfl, rfl, by rw [List.size_toArray, hi.length]; exact hl, by simpa using rv⟩
  -- what is no list is not the script
  have notA : ∀ {b : Addr} {o : Obj} {es : Array DictEntry} {ep : Nat}, s.heap.get? b = some o → o.data = .dict es ep → H b = none := by
    intro b o es ep e d
    rcases hH b with z | ⟨rfl, _, _⟩
    · exact z
    · rw [ha] at e
      cases e
      cases (show Data.seq vs.toArray _ = Data.dict es ep from d)
  have ns' : ∀ {b : Addr} {m : Str → Option Value}, s.heap.Ns b m → (hidT s.heap H).Ns b m := by
    rintro b m ⟨o, es, ep, e, d, r⟩
    exact ⟨o, es, ep, hidT_get e (notA e d), d, r⟩
  have kin' : K.In (hidT s.heap H) := by
    intro b o e
    refine hidT_get (KX b o e) ?_
    rcases hH b with z | ⟨rfl, q, _⟩
    · exact z
    · rw [q] at e; cases e
  have md : Mod K mg (hidT s.heap H) := ⟨kin', ns' hns, ⟨mb, ns' hb, hbb⟩, hlim.imp fun _ z => ⟨ns' z.1, z.2⟩⟩
  have e0 : Env0 P w K mg (hidT s.heap H) PySem.callerA [] s H := ⟨rfl, md, fun _ _ z => of_hidT z, Nat.le_of_eq (hidT_size _ _), trivial, (by intro b z; cases z), hok, .of_eq hg⟩
  refine codeAny_mono ((F _ kin' (ns' hns)).go (us := [.ref a]) (vs := [.ref a]) ⟨hr, rfl⟩ e0 (hbind s (.ref a)) (.cons rfl .nil) (hsp H hS)) ?_
  rintro (e | fl) s' q
  · exact q.elim
  match fl, q with
  | .ret u, ⟨v, H', os, bare, un, ok', r', q⟩ =>
    have q' : v = .bl true := q
    subst q'
    obtain rfl : u = Value.bool true := r'
    refine ⟨rfl, OldK.of_keep fun b o e => ?_, os, bare⟩
    rcases hH b with z | ⟨_, _, z⟩
    · exact un.keep b o e z (by intro y; cases y) (by intro y; cases y)
    · have z1 := (hok b _ z).1
      have z2 := (ok' b _ (un.frzs b _ _ z)).1
      rw [e] at z1
      cases z1
      exact z2
theorem walk_G {l : PySem.W.OpenLaw} {n k : Nat} {q : Program} {loose : List Str} {XP : (Str → Option Value) → Heap → Prop} {YP : World → Heap → Prop} {d : DefRec} {K : Params → PySem.W.Frag} {sp : PySem.W.Frag → Sp} {x : Str}
    (hn : l.most = some n) (hn2 : n ≤ sizeLine) (hdf : d.params.defaults = []) (hr : Room k PySem.callerA) (hY : ∀ (w : World) (h : Heap), YP w h → (K w.params).In h)
    (F : ∀ (w : World) (mg : Str → Option Value) (fa : Addr) (h : Heap), (K w.params).In h → h.Ns mainGlobals mg → mg d.name = some (.ref fa) →
      ∃ fd : FuncData, (∀ (s : Shared) (u : Value), BindsTo s fd ⟨[u], []⟩ [(x, u)]) ∧ ∀ base : Heap, (K w.params).In base → base.Ns mainGlobals mg → FnG l.prog w (K w.params) mg base CX0 k fa fd [x] (sp (K w.params)))
    (hsp : ∀ (K : PySem.W.Frag) (H : Hp) (a : Addr) (ns : List Int), ns.length ≤ n → SqL K H a (ns.map V.int) → sp K [.ref a] H (fun v _ => v = .bl true) fun _ _ _ => False) :
    PySem.W.WalkO q loose XP YP l.row.toRowW d [] (fun f vs => PySem.call f vs) :=
  Att.attach_call hn hdf fun w s0 s1 mg mb fa o pm cd doc a vs ns G Y ho hd hcd hmg hobj hints hlen hg => by
    have KX := hY w _ Y
    obtain ⟨fd, hbd, hF⟩ := F w mg fa _ KX G.T.g hmg
    exact law_G KX G.T.g G.T.b G.T.builtins G.T.nolimit hg hobj hints (Nat.le_trans hlen hn2) hr hF hbd fun H hS => hsp _ H a ns hlen hS
end Toy
namespace Toy
open PySem PySem.Spec PyProof.Rows L2
/-! ### how long a shown datum is -/
mutual
def cst : PyData → Nat
  | .none => 5
  | .bool _ => 5
  | .int _ => 1921
  | .str x => (reprText x).length
  | .list xs => csts xs + 4
  | .tuple xs => csts xs + 4
  | .dict _ => 0
def csts : List PyData → Nat
  | [] => 0
  | x :: xs => cst x + 4 + csts xs
end
theorem tupT_len (ts : List Str) : (tupleText ts).length ≤ piled ts + 4 := by
  unfold tupleText
  rw [strLen_append, strLen_append]
  have e1 : ((("(" : String) : Str)).length = 1 := rfl
  have e3 : (((if ts.length == 1 then ",)" else ")" : String) : Str)).length ≤ 2 := by split <;> decide +kernel
  by_cases h : ts = []
  · subst h; decide +kernel
  · have := join_length_add ts h; omega
theorem txtFrom_len : ∀ (ts : List Str) (k : Nat) (acc : Str), (textFrom k acc ts).length ≤ acc.length + piled ts
  | [], k, acc => Nat.le_add_right _ _
  | t :: r, k, acc => by
    have h := txtFrom_len r (k + 1) (acc ++ (if k > 0 then ", " else "" : String) ++ t)
    have e : (acc ++ (if k > 0 then ", " else "" : String) ++ t).length = acc.length + (if k > 0 then 2 else 0) + t.length := by
      rw [strLen_append, strLen_append]
      split <;> rfl
    rw [e] at h
    rw [piled_cons]
    have h2 : (textFrom k acc (t :: r)).length = (textFrom (k + 1) (acc ++ (if k > 0 then ", " else "" : String) ++ t) r).length := rfl
    rw [h2]
    have e2 : (if k > 0 then 2 else 0) ≤ 2 := by split <;> omega
    omega
theorem lstT_len (ts : List Str) : (listText ts).length ≤ piled ts + 4 := by
  unfold listText
  rw [strLen_append]
  have h := txtFrom_len ts 0 "["
  have e1 : ((("[" : String) : Str)).length = 1 := rfl
  have e2 : ((("]" : String) : Str)).length = 1 := rfl
  omega
mutual
theorem shown_le : ∀ d : PyData, d.showable = true → d.hasDict = false → d.shown.length ≤ cst d
  | .none, _, _ => by show (("None" : String) : Str).length ≤ 5; decide +kernel
  | .bool b, _, _ => by cases b <;> (show _ ≤ 5; decide +kernel)
  | .int i, h, _ => PyProof.Rows.int_text_len_1921 (of_decide_eq_true (by simpa [PyData.showable] using h))
  | .str x, _, _ => Nat.le_refl _
  | .list ds, h, g => by
    have h1 := showns_le ds (by simpa [PyData.showable] using h) (by simpa [PyData.hasDict] using g)
    have h2 := lstT_len (PyData.shownAll ds)
    show (listText (PyData.shownAll ds)).length ≤ csts ds + 4
    omega
  | .tuple ds, h, g => by
    have h1 := showns_le ds (by simpa [PyData.showable] using h) (by simpa [PyData.hasDict] using g)
    have h2 := tupT_len (PyData.shownAll ds)
    show (tupleText (PyData.shownAll ds)).length ≤ csts ds + 4
    omega
  | .dict _, _, g => by simp [PyData.hasDict] at g
theorem showns_le : ∀ ds : List PyData, PyData.showableAll ds = true → PyData.hasDictAll ds = false → piled (PyData.shownAll ds) ≤ csts ds
  | [], _, _ => Nat.le_refl _
  | d :: ds, h, g => by
    have h1 := shown_le d (by simp [PyData.showableAll] at h; exact h.1) (by simp [PyData.hasDictAll] at g; exact g.1)
    have h2 := showns_le ds (by simp [PyData.showableAll] at h; exact h.2) (by simp [PyData.hasDictAll] at g; exact g.2)
    show piled (d.shown :: PyData.shownAll ds) ≤ _
    rw [piled_cons]
    show _ ≤ cst d + 4 + csts ds
    omega
end
theorem shown_sz {d : PyData} (h : d.showable = true) (g : d.hasDict = false) (c : cst d ≤ 10000000) : d.shown.length ≤ sizeLine :=
  Nat.le_trans (shown_le d h g) (Nat.le_trans c (by decide))
end Toy
namespace Toy
open PySem PySem.Spec PyProof.Rows L2
/-- a list of ints grown by a part of another one -/
theorem ext_cut {L z : Addr} {ws es : List Int} {lo hi : Option Int} {H : Hp} {R : VK} (hL : H L = some (.lst (ws.map V.int))) (hz : H z = some (.lst (cutV (es.map V.int) lo hi))) (hs : ws.length + es.length ≤ 1000)
    (q : ∀ us : List Int, us.length ≤ es.length → (∀ x ∈ us, x ∈ es) → R .non (upd H L (.lst ((ws ++ us).map V.int)))) : rExtend (.ref L) [.ref z] H R := by
  obtain ⟨us, e, h1, h2⟩ := cut_map es lo hi
  rw [e] at hz
  refine ⟨L, z, _, _, rfl, rfl, hL, hz, small (by rw [List.length_map, List.length_map]; omega), ?_⟩
  have := q us h1 h2
  rw [List.map_append] at this
  exact this
theorem rep_len {n : Nat} : ((List.replicate n true).map V.bl).length = n := by rw [List.length_map, List.length_replicate]
theorem rep_snoc {n : Nat} : (List.replicate n true).map V.bl ++ [V.bl true] = (List.replicate (n + 1) true).map V.bl := by rw [List.replicate_succ', List.map_append] <;> rfl
theorem rep_all (n : Nat) : (List.replicate n true).all id = true := by rw [List.all_eq_true]; intro x hx; rw [List.mem_replicate] at hx; exact hx.2
theorem ixn {n j : Nat} (hj : j < n) : ixN n (j : Int) = some j := by
  unfold ixN
  rw [if_pos (by omega), if_pos (by omega)]
  exact congrArg some (Int.toNat_natCast j)
theorem dec_self (a : V) : decide (a = a) = true := decide_eq_true rfl
end Toy
namespace Toy
open PySem PySem.Spec PyProof.Rows L2
/-- a comprehension within a comprehension -/
theorem relabel_kept {env : Env} : ∀ {names : List (Str × NameKind)} {x : Str}, names.lookup x = some .cell ∨ names.lookup x = some .free →
    (names.map fun (n, k) => if (k == NameKind.free && env.scope.kind == .function && env.kindOf n == some .cell) then (n, NameKind.cell) else (n, k)).lookup x = some .cell ∨
    (names.map fun (n, k) => if (k == NameKind.free && env.scope.kind == .function && env.kindOf n == some .cell) then (n, NameKind.cell) else (n, k)).lookup x = some .free
  | [], _, h => by simp at h
  | (n, k) :: r, x, h => by
    have ih := @relabel_kept env r x
    show List.lookup x ((if (k == NameKind.free && env.scope.kind == .function && env.kindOf n == some .cell) = true then (n, NameKind.cell) else (n, k)) :: _) = _ ∨ List.lookup x ((if (k == NameKind.free && env.scope.kind == .function && env.kindOf n == some .cell) = true then (n, NameKind.cell) else (n, k)) :: _) = _
    cases hx : x == n with
    | true =>
      simp only [List.lookup_cons, hx] at h
      by_cases hc : (k == NameKind.free && env.scope.kind == .function && env.kindOf n == some .cell) = true
      · rw [if_pos hc]; exact .inl (by simp [List.lookup_cons, hx])
      · rw [if_neg hc]; simp only [List.lookup_cons, hx]; exact h
    | false =>
      simp only [List.lookup_cons, hx] at h
      by_cases hc : (k == NameKind.free && env.scope.kind == .function && env.kindOf n == some .cell) = true
      · rw [if_pos hc]; simp only [List.lookup_cons, hx]; exact ih h
      · rw [if_neg hc]; simp only [List.lookup_cons, hx]; exact ih h
theorem blkOk_nest {X : Cx} {s : Shared} {H : Hp} {scope1 scope : Scope} {cl : List (Str × Addr)} {C : Addr} {env : Env} {fp : List Addr} {own : List (Str × Nat)} {N : List Str} (hN : X.N = N) (h : blkC N scope1 scope own = true) :
    BlkOk (X.blk s H scope1 (compEnvC scope1 cl C env) fp).N (X.blk s H scope1 (compEnvC scope1 cl C env) fp).env.scope scope own := by
  subst hN
  obtain ⟨h1, h2, h3, h4, h5⟩ := blkOk_by h
  exact ⟨h1, h2, h3, fun y hy e => relabel_kept (h4 y hy e), h5⟩
end Toy
namespace Toy
open PySem PySem.Spec PyProof.Rows L2
/-! ### own classes -/
/-- where a name's class stands -/
def cAt (mg : Str → Option Value) (x : Str) : Addr := match mg x with | some (.ref C) => C | _ => 0
theorem cAt_eq {mg : Str → Option Value} {x : Str} {C : Addr} (h : mg x = some (.ref C)) : cAt mg x = C := by unfold cAt; rw [h]
structure ClsF (K : PySem.W.Frag) (mg : Str → Option Value) (x : Str) (fs : List Str) : Prop where
  mg_ : mg x = some (.ref (cAt mg x))
  cl : Cls K (cAt mg x)
  no : ∀ f ∈ fs, NoAttr K (cAt mg x) f
theorem ClsF.of {K : PySem.W.Frag} {mg : Str → Option Value} {x : Str} {C : Addr} {fs : List Str} (m : mg x = some (.ref C)) (c : Cls K C) (n : ∀ f ∈ fs, NoAttr K C f) : ClsF K mg x fs := by
  have e := cAt_eq m
  exact ⟨by rw [e]; exact m, by rw [e]; exact c, by rw [e]; exact n⟩
/-- a method, by its class -/
structure DfM (K : PySem.W.Frag) (C : Addr) (m q : Str) (st : Stmt) (ps : List Str) : Prop where
  ex : ∃ f fd, Fun K m q st f fd ∧ Meth K C m f ∧ Binds K fd ps []
theorem DfM.of {K : PySem.W.Frag} {mg : Str → Option Value} {x m q : Str} {st : Stmt} {ps : List Str} {f C : Addr} {oc : Value} {od an : Option Addr} {osl : Array (Option Value)} {kV doc pm cdv ct : Value} (hC : mg x = some (.ref C))
    (a : PySem.W.findIn K (.ref C) m = some (some (.ref f))) (i : PySem.W.isFn K (.ref f) = true)
    (l : K.lookup f = some ⟨oc, od, .func (PySem.W.fnOf m q (defArgs st) (defBody st) (defScope st) .none kV doc pm an cdv ct), osl⟩) (c : PySem.W.codeIn K cdv q = true) (k : PySem.W.keepIn K (.ref f) = true)
    (h : ∀ (kV doc pm : Value) (an : Option Addr) (cdv ct : Value) (us : List Value), us.length = ps.length → bindArgs (PySem.W.fnOf m q (defArgs st) (defBody st) (defScope st) .none kV doc pm an cdv ct) ⟨us, []⟩ = pure (ps.zip us)) : DfM K (cAt mg x) m q st ps := by
  rw [cAt_eq hC]
  exact ⟨_, _, fun_mk l c k, ⟨a, i, k⟩, (fun_mk l c k).binds h⟩
structure DnM (P : Program) (w : World) (K : PySem.W.Frag) (mg : Str → Option Value) (base : Heap) (C : Addr) (k : Nat) (m : Str) (ps : List Str) (sp : Sp) : Prop where
  ex : ∃ f fd, FnG P w K mg base CX0 k f fd ps sp ∧ Meth K C m f ∧ Binds K fd ps []
theorem DfM.ok {P : Program} {w : World} {K : PySem.W.Frag} {mg : Str → Option Value} {base : Heap} {C : Addr} {m q : Str} {st : Stmt} {ps : List Str} {k : Nat} {sp : Sp} (D : DfM K C m q st ps)
    (h : ∀ f fd, Fun K m q st f fd → FnG P w K mg base CX0 k f fd ps sp) : DnM P w K mg base C k m ps sp := by
  obtain ⟨f, fd, F, mt, b⟩ := D.ex
  exact ⟨f, fd, h f fd F, mt, b⟩
/-- the maker of a class -/
structure DfI (K : PySem.W.Frag) (C : Addr) (q : Str) (st : Stmt) (ps : List Str) : Prop where
  ex : ∃ f fd, Fun K "__init__" q st f fd ∧ Mk K C f ∧ Binds K fd ps []
theorem DfI.of {K : PySem.W.Frag} {mg : Str → Option Value} {x q : Str} {st : Stmt} {ps : List Str} {f C : Addr} {oc : Value} {od an : Option Addr} {osl : Array (Option Value)} {kV doc pm cdv ct : Value} (hC : mg x = some (.ref C))
    (a : PySem.W.findIn K (.ref C) "__init__" = some (some (.ref f))) (i : PySem.W.isFn K (.ref f) = true)
    (l : K.lookup f = some ⟨oc, od, .func (PySem.W.fnOf "__init__" q (defArgs st) (defBody st) (defScope st) .none kV doc pm an cdv ct), osl⟩) (c : PySem.W.codeIn K cdv q = true) (k : PySem.W.keepIn K (.ref f) = true)
    (mk : PySem.W.makesIn K C = true) (kc : PySem.W.keepIn K (.ref C) = true)
    (h : ∀ (kV doc pm : Value) (an : Option Addr) (cdv ct : Value) (us : List Value), us.length = ps.length → bindArgs (PySem.W.fnOf "__init__" q (defArgs st) (defBody st) (defScope st) .none kV doc pm an cdv ct) ⟨us, []⟩ = pure (ps.zip us)) : DfI K (cAt mg x) q st ps := by
  rw [cAt_eq hC]
  exact ⟨_, _, fun_mk l c k, ⟨mk, a, i, kc⟩, (fun_mk l c k).binds h⟩
structure DnI (P : Program) (w : World) (K : PySem.W.Frag) (mg : Str → Option Value) (base : Heap) (C : Addr) (k : Nat) (ps : List Str) (sp : Sp) : Prop where
  ex : ∃ f fd, FnG P w K mg base CX0 k f fd ps sp ∧ Mk K C f ∧ Binds K fd ps []
theorem DfI.ok {P : Program} {w : World} {K : PySem.W.Frag} {mg : Str → Option Value} {base : Heap} {C : Addr} {q : Str} {st : Stmt} {ps : List Str} {k : Nat} {sp : Sp} (D : DfI K C q st ps)
    (h : ∀ f fd, Fun K "__init__" q st f fd → FnG P w K mg base CX0 k f fd ps sp) : DnI P w K mg base C k ps sp := by
  obtain ⟨f, fd, F, mt, b⟩ := D.ex
  exact ⟨f, fd, h f fd F, mt, b⟩
theorem RoomG.make {k : Nat} {A : Around} (r : RoomG (k + 1) A) (C : Addr) (us : List Value) (kw : List (Str × Value)) : RoomG k (A.under (.builtin "type.__call__" ⟨.ref C :: us, kw⟩)) :=
  ⟨r.room.make C us kw, r.idle⟩
section
variable {X : Cx} {k : Nat} {C : Addr} {ps : List Str} {sp : Sp} {x m : Str} {p pos apos : Pos} {e o : Expr} {es : List Expr} {ta : TE} {t : TA}
theorem pe_mG {pl : Sem Bool} (D : DnM X.prog X.w X.K X.mg X.base C k m ps sp) (c : Cls X.K C) (hr : RoomG k X.A) (he : PE X o ta) (ha : PA X (e :: es) t)
    (hst : starEach (e :: es) X.env = (false, eval e X.env) :: starEach es X.env := by rfl) (hpl : (backTo pos (starEach es X.env)).any (·.1) = false := by rfl)
    (ht : eval (.Call (.Attribute o m apos) (e :: es) [] pos) X.env = (do
      let ov ← eval o X.env
      standAt apos.atName
      let (f, first) ← holding [ov] (getMethod ov m pl)
      callWith pos f first (backTo pos (starEach (e :: es) X.env)) (backToKw pos (keywordEach [] X.env))) := by rfl) :
    PE X (.Call (.Attribute o m apos) (e :: es) [] pos) (tMeth C m sp [] E0 ta t) := by
  obtain ⟨f, fd, F, hm, hb⟩ := D.ex
  refine ⟨fun pins s σ H Q I h => ?_⟩
  refine PySem.W.methodCall_KW (pl := pl) (thn (he.run pins s σ H _ I h) fun u s1 ⟨x, H1, I1, rx, a, dx, fs, ex, ea, l, q⟩ => ?_) ht
  subst ex
  obtain rfl : u = Value.ref a := rx
  refine getmeth_ok I1 ea c hm l ?_
  refine PySem.W.callWith_K (first := [.ref a]) (h₀ := X.base) I.ok.mod.kin hm.kp (thn (ha.run pos pins s1 σ H1 _ I1 q) fun us s2 ⟨vs, H2, I2, r, q2⟩ => ⟨I2.kIn, ?_⟩) hst hpl
  have q' : sp (.ref a :: vs) H2 Q E0 := by
    have z : sp (.ref a :: (vs ++ [])) H2 Q E0 := q2
    rw [List.append_nil] at z
    exact z
  exact run_G (us := .ref a :: us) (vs := .ref a :: vs) F hr hb (fun _ _ z => z.elim) I2 (.cons rfl r) q'
theorem pe_mG0 {pl : Sem Bool} (D : DnM X.prog X.w X.K X.mg X.base C k m ps sp) (c : Cls X.K C) (hr : RoomG k X.A) (he : PE X o ta)
    (ht : eval (.Call (.Attribute o m apos) [] [] pos) X.env = (do
      let ov ← eval o X.env
      standAt apos.atName
      let (f, first) ← holding [ov] (getMethod ov m pl)
      callWith pos f first (backTo pos (starEach [] X.env)) (backToKw pos (keywordEach [] X.env))) := by rfl) :
    PE X (.Call (.Attribute o m apos) [] [] pos) (tMeth C m sp [] E0 ta tNil) := by
  obtain ⟨f, fd, F, hm, hb⟩ := D.ex
  refine ⟨fun pins s σ H Q I h => ?_⟩
  refine PySem.W.methodCall_KW (pl := pl) (thn (he.run pins s σ H _ I h) fun u s1 ⟨x, H1, I1, rx, a, dx, fs, ex, ea, l, q⟩ => ?_) ht
  subst ex
  obtain rfl : u = Value.ref a := rx
  refine getmeth_ok I1 ea c hm l ?_
  exact PySem.W.callWith_K0 (first := [.ref a]) I1.kIn hm.kp (run_G (us := [.ref a]) (vs := [.ref a]) F hr hb (fun _ _ z => z.elim) I1 (.cons rfl .nil) q)
theorem run_mkG {pins : List (Addr × Obj)} {σ : L2.St} {H : Hp} {s : Shared} {Q : VK} {us : List Value} {vs : List V} {f : Addr} {fd : FuncData} (M : Mk X.K C f) (F : FnG X.prog X.w X.K X.mg X.base CX0 k f fd ps sp) (hr : RoomG (k + 1) X.A) (hb : Binds X.K fd ps [])
    (I : Inv X pins σ H s) (r : Vals vs us)
    (h : ∀ x dx, H x = none → H dx = none → dx ≠ x → sp (.ref x :: vs) (upd (upd H dx (.own x)) x (.ins C dx [])) (fun v H2 => v = .non ∧ Q (.ref x) H2) E0) :
    wpAny (model X.prog X.w) X.A (call (.ref C) us) (EP X pins σ Q) X.xe s := by
  have hq := h (s.heap.objs.size + 1) s.heap.objs.size (I.hok.fresh (Nat.le_succ _)) (I.hok.fresh (Nat.le_refl _)) (Nat.ne_of_lt (Nat.lt_succ_self _))
  have I2 := Inv.made (C := C) I
  have r2 : Vals (V.ref (s.heap.objs.size + 1) :: vs) (Value.ref (s.heap.objs.size + 1) :: us) := .cons rfl r
  have hl : (Value.ref (s.heap.objs.size + 1) :: us).length = ps.length := by
    rw [← r2.length]
    exact F.arity _ _ _ _ hq
  have b := hb { s with heap := _ } (Value.ref (s.heap.objs.size + 1) :: us) I2.kIn (by rw [List.append_nil]; exact hl)
  rw [List.append_nil] at b
  refine wpAny_call (make_map (f := f) I.kIn M.makes M.init (beq_iff_eq.mp M.fn) (codeAny_mono (F.go (hr.make C us []) (I2.env0.make C us []) b r2 hq) fun r s' hq' => ?_))
  cases r with
  | error e => exact hq'.elim
  | ok fl =>
    match fl, hq' with
    | .ret u, hq' =>
      obtain ⟨v, H', I3, rv, ev, q3⟩ := I2.after hq'
      subst ev
      exact ⟨rv, ⟨V.ref (s.heap.objs.size + 1), H', I3, rfl, q3⟩⟩
theorem pe_mkG (D : DnI X.prog X.w X.K X.mg X.base C k ps sp) (hr : RoomG (k + 1) X.A) (hg : Gl X x) (hm : X.mg x = some (.ref C)) (ha : PA X (e :: es) t) (hdb : (x == ("__debug__" : Str)) = false := by decide)
    (he : starEach (e :: es) X.env = (false, eval e X.env) :: starEach es X.env := by rfl) (hpl : (backTo pos (starEach es X.env)).any (·.1) = false := by rfl) :
    PE X (.Call (.Name x p) (e :: es) [] pos) (tMake C sp [] E0 t) := by
  obtain ⟨f, fd, F, M, hb⟩ := D.ex
  refine ⟨fun pins s σ H Q I h => ?_⟩
  refine wpAny_Call_Name_kw (ld_glob I hg hm ?_ hdb)
  refine PySem.W.callWith_K (h₀ := X.base) I.ok.mod.kin M.kp (thn (ha.run pos pins s σ H _ I h) fun us s1 ⟨vs, H1, I1, r, q⟩ => ⟨I1.kIn, ?_⟩) he hpl
  exact run_mkG M F hr hb I1 r fun x dx h1 h2 h3 => by
    have z := q x dx h1 h2 h3
    rw [List.append_nil] at z
    exact z
/-- o.f, as a target -/
def gFld (K : PySem.W.Frag) (to : TE) (f : Str) : TG := fun v σ H Q => to σ H fun x H1 => ∃ a C dx fs, x = .ref a ∧ H1 a = some (.ins C dx fs) ∧ Cls K C ∧ NoAttr K C f ∧ fs.length < 1000 ∧ Q σ (upd H1 a (.ins C dx (putF f v fs)))
theorem pg_fld {f : Str} {to : TE} (ho : PE X o to) : PG X (.Attribute o f pos) (gFld X.K to f) := by
  refine ⟨fun pins s σ H v u Q I r h => ?_⟩
  rw [assign_Attribute]
  refine wpAny_bind (wpAny_holding (thn (ho.run pins s σ H _ I h) fun ov s1 ⟨x, H1, I1, rx, a, C, dx, fs, ex, ea, c, n, l, q⟩ => ?_))
  subst ex
  obtain rfl : ov = Value.ref a := rx
  refine wpAny_bind (wpAny_standAt ?_)
  refine wpAny_bind (wpAny_holding (setattr_ok I1 ea c n l r fun s2 I2 => ?_))
  exact wpAny_release ⟨σ, _, I2, q⟩
end
end Toy
namespace Toy
open PySem PySem.Spec PyProof.Rows L2
theorem hp_same {H H' : Hp} {a : Addr} {o : HO} (s : Same H H') (h : H a = some o) : H' a = some o := s _ _ h
theorem hp_at {H H' : Hp} {a : Addr} {o : HO} (h : H a = some o) (s : Same H H') : H' a = some o := s _ _ h
theorem sql_at {K : PySem.W.Frag} {H H' : Hp} {p : Addr} {xs : List V} (h : SqL K H p xs) (s : Same H H') : SqL K H' p xs := s.seq h
theorem sqt_at {K : PySem.W.Frag} {H H' : Hp} {a : Addr} {xs : List V} (h : SqT K H a xs) (s : Same H H') : SqT K H' a xs := same_tup s h
theorem same_bk {H M H' : Hp} (b : Same M H') (a : Same H M) : Same H H' := a.trans b
theorem hp_new {H : Hp} {l a : Addr} {o u : HO} (n : H l = none) (h : H a = some o) : upd H l u a = some o := same_new n u _ _ h
theorem s1k : 1000 ≤ sizeLine := by decide
theorem lk1000 {n : Nat} (h : n ≤ 1000) : n ≤ sizeLine := Nat.le_trans h s1k
theorem lt1000 {n : Nat} (h : n < 1000) : n < sizeLine := Nat.lt_of_lt_of_le h s1k
theorem tyL {K : PySem.W.Frag} {H : Hp} {p : Addr} {xs : List V} (h : H p = some (.lst xs)) : tyV K "list" (.ref p) H := .inl ⟨rfl, xs, SqL.of h⟩
theorem sq_same {K : PySem.W.Frag} {H H' : Hp} {p : Addr} {xs : List V} (s : Same H H') (h : SqL K H p xs) : SqL K H' p xs := s.seq h
theorem newS {H H' : Hp} {l : Addr} {o : HO} (e : upd H l o = H') (n : H l = none) : Same H H' := e ▸ same_new n o
theorem newO {H H' : Hp} {l : Addr} {o : HO} (e : upd H l o = H') : H' l = some o := e ▸ upd_same
end Toy
namespace Toy
open PySem L2
def top (i : Nat) : Stmt := PySem.Challenge.pw_joinedasks_k36_whole_each_switch_two_han.main.body.getD i (.Pass ⟨0, 0, 0, 0⟩)
abbrev s_is_whole : Stmt := top 7
theorem sc_is_whole : FnScope ["thing"] ["thing"] (defScope s_is_whole) := ⟨rfl, rfl, rfl, by decide +kernel, rfl, by decide +kernel, by decide +kernel⟩
abbrev s_is_within : Stmt := top 8
theorem sc_is_within : FnScope ["thing", "least", "most"] ["thing", "least", "most"] (defScope s_is_within) := ⟨rfl, rfl, rfl, by decide +kernel, rfl, by decide +kernel, by decide +kernel⟩
abbrev s_want_net : Stmt := top 9
theorem sc_want_net : FnScope ["k", "deepest"] ["k", "deepest"] (defScope s_want_net) := ⟨rfl, rfl, rfl, by decide +kernel, rfl, by decide +kernel, by decide +kernel⟩
abbrev s_is_line : Stmt := top 11
theorem sc_is_line : FnScope ["k", "thing"] ["k", "thing"] (defScope s_is_line) := ⟨rfl, rfl, rfl, by decide +kernel, rfl, by decide +kernel, by decide +kernel⟩
abbrev s_want_hand : Stmt := top 12
theorem sc_want_hand : FnScope ["k", "thing"] ["k", "thing"] (defScope s_want_hand) := ⟨rfl, rfl, rfl, by decide +kernel, rfl, by decide +kernel, by decide +kernel⟩
abbrev s_want_side : Stmt := top 13
theorem sc_want_side : FnScope ["k", "thing"] ["k", "thing"] (defScope s_want_side) := ⟨rfl, rfl, rfl, by decide +kernel, rfl, by decide +kernel, by decide +kernel⟩
abbrev s_line_on_way : Stmt := top 14
theorem sc_line_on_way : FnScope ["k", "hand", "goal", "level", "left"] ["k", "hand", "goal", "level"] (defScope s_line_on_way) := ⟨rfl, rfl, rfl, by decide +kernel, rfl, by decide +kernel, by decide +kernel⟩
abbrev s_figure_in : Stmt := top 15
theorem sc_figure_in : FnScope ["k", "line", "stage"] ["k", "line", "stage"] (defScope s_figure_in) := ⟨rfl, rfl, rfl, by decide +kernel, rfl, by decide +kernel, by decide +kernel⟩
abbrev s_number_without : Stmt := top 16
theorem sc_number_without : FnScope ["k", "line", "stage", "left"] ["k", "line", "stage"] (defScope s_number_without) := ⟨rfl, rfl, rfl, by decide +kernel, rfl, by decide +kernel, by decide +kernel⟩
abbrev s_way : Stmt := top 17
theorem sc_way : FnScope ["k", "hand", "side", "level"] ["k", "hand", "side"] (defScope s_way) := ⟨rfl, rfl, rfl, by decide +kernel, rfl, by decide +kernel, by decide +kernel⟩
abbrev s_switches : Stmt := top 18
theorem sc_switches : FnScope ["k", "hand", "side", "lines", "stage"] ["k", "hand", "side"] (defScope s_switches) := ⟨rfl, rfl, rfl, by decide +kernel, rfl, by decide +kernel, by decide +kernel⟩
abbrev s_want_pairs : Stmt := top 19
theorem sc_want_pairs : FnScope ["k", "pairs", "hand", "goal", "one"] ["k", "pairs"] (defScope s_want_pairs) := ⟨rfl, rfl, rfl, by decide +kernel, rfl, by decide +kernel, by decide +kernel⟩
abbrev s_shared_line : Stmt := top 20
theorem sc_shared_line : FnScope ["k", "pairs", "level", "lines", "found", "hand", "goal", "line"] ["k", "pairs"] (defScope s_shared_line) := ⟨rfl, rfl, rfl, by decide +kernel, rfl, by decide +kernel, by decide +kernel⟩
abbrev s_first_shared : Stmt := top 21
theorem sc_first_shared : FnScope ["k", "pairs"] ["k", "pairs"] (defScope s_first_shared) := ⟨rfl, rfl, rfl, by decide +kernel, rfl, by decide +kernel, by decide +kernel⟩
abbrev s_is_setting_row : Stmt := top 23
theorem sc_is_setting_row : FnScope ["k", "thing", "number"] ["k", "thing"] (defScope s_is_setting_row) := ⟨rfl, rfl, rfl, by decide +kernel, rfl, by decide +kernel, by decide +kernel⟩
abbrev s_is_settings : Stmt := top 24
theorem sc_is_settings : FnScope ["k", "thing", "row"] ["k", "thing"] (defScope s_is_settings) := ⟨rfl, rfl, rfl, by decide +kernel, rfl, by decide +kernel, by decide +kernel⟩
abbrev s_want_settings : Stmt := top 25
theorem sc_want_settings : FnScope ["k", "thing"] ["k", "thing"] (defScope s_want_settings) := ⟨rfl, rfl, rfl, by decide +kernel, rfl, by decide +kernel, by decide +kernel⟩
abbrev s_plain_rows : Stmt := top 26
theorem sc_plain_rows : FnScope ["k", "stage"] ["k"] (defScope s_plain_rows) := ⟨rfl, rfl, rfl, by decide +kernel, rfl, by decide +kernel, by decide +kernel⟩
abbrev s_as_settings : Stmt := top 27
theorem sc_as_settings : FnScope ["rows", "row"] ["rows"] (defScope s_as_settings) := ⟨rfl, rfl, rfl, by decide +kernel, rfl, by decide +kernel, by decide +kernel⟩
abbrev s_led_from : Stmt := top 28
theorem sc_led_from : FnScope ["k", "settings", "hand", "line", "stage"] ["k", "settings", "hand"] (defScope s_led_from) := ⟨rfl, rfl, rfl, by decide +kernel, rfl, by decide +kernel, by decide +kernel⟩
abbrev s_led : Stmt := top 29
theorem sc_led : FnScope ["k", "settings", "hand"] ["k", "settings"] (defScope s_led) := ⟨rfl, rfl, rfl, by decide +kernel, rfl, by decide +kernel, by decide +kernel⟩
abbrev s_want_sides : Stmt := top 30
theorem sc_want_sides : FnScope ["k", "sides", "goal"] ["k", "sides"] (defScope s_want_sides) := ⟨rfl, rfl, rfl, by decide +kernel, rfl, by decide +kernel, by decide +kernel⟩
abbrev s_settings_by : Stmt := top 31
theorem sc_settings_by : FnScope ["k", "sides", "rows", "hand", "goal", "line", "stage", "crossed"] ["k", "sides"] (defScope s_settings_by) := ⟨rfl, rfl, rfl, by decide +kernel, rfl, by decide +kernel, by decide +kernel⟩
abbrev s_settings_for : Stmt := top 32
theorem sc_settings_for : FnScope ["k", "sides", "found"] ["k", "sides"] (defScope s_settings_for) := ⟨rfl, rfl, rfl, by decide +kernel, rfl, by decide +kernel, by decide +kernel⟩
abbrev s__law_rich : Stmt := top 34
theorem sc__law_rich : FnScope ["_law_cell", "_law_turn", "_law_found", "_law_k", "_law_prime", "_law_seed"] ["_law_cell", "_law_turn"] (defScope s__law_rich) := ⟨rfl, rfl, rfl, by decide +kernel, rfl, by decide +kernel, by decide +kernel⟩
abbrev s__law_purse : Stmt := top 35
theorem sc__law_purse : FnScope ["_law_script", "_law_k", "_law_cell"] ["_law_script", "_law_k"] (defScope s__law_purse) := ⟨rfl, rfl, rfl, by decide +kernel, rfl, by decide +kernel, by decide +kernel⟩
abbrev s__law_take : Stmt := top 36
theorem sc__law_take : FnScope ["_law_purse_here", "_law_many", "_law_digit"] ["_law_purse_here", "_law_many"] (defScope s__law_take) := ⟨rfl, rfl, rfl, by decide +kernel, rfl, by decide +kernel, by decide +kernel⟩
abbrev s__law_settings : Stmt := top 37
theorem sc__law_settings : FnScope ["_law_purse_here", "_law_k", "_law_rows", "_law_stage", "_law_number"] ["_law_purse_here", "_law_k"] (defScope s__law_settings) := ⟨rfl, rfl, rfl, by decide +kernel, rfl, by decide +kernel, by decide +kernel⟩
abbrev s__law_passed : Stmt := top 38
theorem sc__law_passed : FnScope ["_law_k", "_law_pairs", "_law_found", "_law_hand", "_law_goal", "_law_lines", "_law_stage", "_law_number"] ["_law_k", "_law_pairs"] (defScope s__law_passed) := ⟨rfl, rfl, rfl, by decide +kernel, rfl, by decide +kernel, by decide +kernel⟩
abbrev s__law_are_two : Stmt := top 39
theorem sc__law_are_two : FnScope ["_law_lines", "_law_crossed", "_law_ahead", "_law_behind"] ["_law_lines", "_law_crossed"] (defScope s__law_are_two) := ⟨rfl, rfl, rfl, by decide +kernel, rfl, by decide +kernel, by decide +kernel⟩
abbrev s__law_by_two : Stmt := top 40
theorem sc__law_by_two : FnScope ["_law_k", "_law_settings_here", "_law_pairs", "_law_passed_here", "_law_stage", "_law_number"] ["_law_k", "_law_settings_here", "_law_pairs"] (defScope s__law_by_two) := ⟨rfl, rfl, rfl, by decide +kernel, rfl, by decide +kernel, by decide +kernel⟩
abbrev s__law_otherwise_clashes : Stmt := top 41
theorem sc__law_otherwise_clashes : FnScope ["_law_k", "_law_sides", "_law_hand", "_law_goal", "_law_others", "_law_line"] ["_law_k", "_law_sides", "_law_hand", "_law_goal"] (defScope s__law_otherwise_clashes) := ⟨rfl, rfl, rfl, by decide +kernel, rfl, by decide +kernel, by decide +kernel⟩
abbrev s_law : Stmt := top 42
theorem sc_law : FnScope ["_law_script", "_law_cell", "_law_purse_here", "_law_k", "_law_settings_here", "_law_hand", "_law_goal", "_law_turn", "_law_sides", "_law_pairs"] ["_law_script"] (defScope s_law) := ⟨rfl, rfl, rfl, by decide +kernel, rfl, by decide +kernel, by decide +kernel⟩
structure Bl (K : PySem.W.Frag) (mg : Str → Option Value) : Prop where
  abs_ : mg "abs" = none
  all_ : mg "all" = none
  bool_ : mg "bool" = none
  enumerate_ : mg "enumerate" = none
  int_ : mg "int" = none
  isinstance_ : mg "isinstance" = none
  len_ : mg "len" = none
  list_ : mg "list" = none
  max_ : mg "max" = none
  min_ : mg "min" = none
  range_ : mg "range" = none
  sorted_ : mg "sorted" = none
  tuple_ : mg "tuple" = none

end Toy
/-! ### enumerate of a tuple -/
namespace PySem
open Sem (wp)
open AutoSeq1 (wpAny_loadPart')
theorem meets_enumerate_newTu (l : Addr) (items : Array Value) (n : Nat) (dct : Option Addr) (sl : Array (Option Value)) :
    Meets (Builtin.«enumerate.__new__» ⟨[.type "enumerate", .ref l], []⟩) (fun _ R s => s.heap.get? l = some { cls := .type "tuple", dict := dct, data := .seq items n, slots := sl } ∧
      R (.ok (.ret (.ref (s.heap.push { cls := .type "tuple_iterator", data := .fields #[.ref l, .int 0 0] }).objs.size)))
        { s with heap := (s.heap.push { cls := .type "tuple_iterator", data := .fields #[.ref l, .int 0 0] }).push { cls := .type "enumerate", data := .fields #[.none, .bool false, .ref s.heap.objs.size, rawInt 0, .none, .none] } }) :=
  .of_wp fun prog w A R s h => by
    obtain ⟨hp, g, d, tk, os⟩ := s; obtain ⟨hl, h⟩ := h
    have hsub := sub_enumerate
    have hL : Heap.IsTuple (Shared.heap ⟨hp, g, d, tk, os⟩) l items := ⟨_, hl, rfl, n, rfl⟩
    wp_walk using wpAny_loadPart' hl
    refine wpAny_stack_any fun st => wpAny_pure ?_
    split
    · rename_i c _ _ _ _ _
      cases (c == Value.type "enumerate")
      · wp_walk using wpAny_loadPart' hl, wpAny_pyIter_tuple hL
        exact ⟨_, rfl, h⟩
      · wp_walk using wpAny_loadPart' hl, wpAny_pyIter_tuple hL
        exact ⟨_, rfl, h⟩
    · wp_walk using wpAny_loadPart' hl, wpAny_pyIter_tuple hL
      exact ⟨_, rfl, h⟩
theorem call_enumerate_tup {prog : Program} {w : World} {A : Around} {E : Value → Shared → Prop} {s : Shared} {l : Addr} {items : Array Value} {Q : Value → Shared → Prop} (hL : s.heap.IsTuple l items)
    (h : ∀ h', IsEnum h' (s.heap.objs.size + 1) s.heap.objs.size 0 .none → h'.IsTupleIter s.heap.objs.size l 0 → h'.objs.size = s.heap.objs.size + 2 →
      (∀ b o, s.heap.get? b = some o → h'.get? b = some o) → Q (.ref (s.heap.objs.size + 1)) { s with heap := h' }) :
    wpAny (model prog w) A (call (.type "enumerate") [.ref l]) Q E s := by
  obtain ⟨⟨c, dct, dt, sl⟩, hl, hc, n, hd⟩ := hL
  replace hc : c = .type "tuple" := hc
  replace hd : dt = .seq items n := hd
  subst hc hd
  refine callType_new F.called_enumerate (by decide) (F.typeCall_enumerate_1 _) (F.newCall_enumerate_1 _) (fun obj => F.args_object_init_2 obj _) F.entry_enumerate_new
    (meets_enumerate_newTu l items n dct sl) ⟨hl, ?_⟩
  have hz : (s.heap.push { cls := .type "tuple_iterator", data := .fields #[.ref l, .int 0 0] }).objs.size = s.heap.objs.size + 1 := Heap.size_push ..
  show _ ∧ _
  rw [hz]
  have he : IsEnum ((s.heap.push { cls := .type "tuple_iterator", data := .fields #[.ref l, .int 0 0] }).push
      { cls := .type "enumerate", data := .fields #[.none, .bool false, .ref s.heap.objs.size, rawInt 0, .none, .none] }) (s.heap.objs.size + 1) s.heap.objs.size 0 .none := by
    have := Heap.get?_push_size (s.heap.push { cls := .type "tuple_iterator", data := .fields #[.ref l, .int 0 0] })
      (o := { cls := .type "enumerate", data := .fields #[.none, .bool false, .ref s.heap.objs.size, rawInt 0, .none, .none] }) rfl
    rw [hz] at this; exact this
  refine ⟨⟨_, he, rfl⟩, h _ he ⟨_, Heap.get?_push_of_some _ (Heap.get?_push_size _ rfl), rfl, rfl⟩ (by rw [Heap.size_push, hz]) fun b o x => Heap.get?_push_of_some _ (Heap.get?_push_of_some _ x)⟩
end PySem
namespace Toy
open PySem PySem.Spec PyProof.Rows L2
theorem tup_is {h : Heap} {a : Addr} {its : Array Value} (p : IsTup h a its) : h.IsTuple a its := p
/-- the tuple at a as it stands at each turn, each item in a new pair -/
def IteT (K : PySem.W.Frag) (a : Addr) : It :=
  ⟨fun i H => ∃ (xs : List V) (x : V), SqT K H a xs ∧ xs[i]? = some x, fun i H v H' => ∃ T x, v = .ref T ∧ H T = none ∧ H' = upd H T (.tup [.int (i : Nat), x]) ∧ ∀ xs, SqT K H a xs → xs[i]? = some x, fun i H => ∃ xs : List V, SqT K H a xs ∧ xs.length = i⟩
theorem turn_enumTu {P : Program} {w : World} {K : PySem.W.Frag} {elts : List Expr} {kk : Nat} {tpos : Pos} (a e it : Addr) (hai : a ≠ it) :
    Turn P w K (.Tuple elts kk tpos) (IteT K a) [e, it] e (fun i h => (∃ old, IsEnum h e it ((i : Nat) : Int) old) ∧ h.IsTupleIter it a i ∧ e ≠ it ∧ e ≠ a) where
  mem := by simp
  obj := fun i h st b hb => by
    obtain ⟨⟨old, he⟩, ⟨o, ho, hc, hd⟩, _⟩ := st
    have e' : b = e ∨ b = it := by simpa using hb
    rcases e' with z | z
    · rw [z]; exact ⟨_, he, fun v q => nomatch q⟩
    · rw [z]; exact ⟨o, ho, fun v q => by rw [hd] at q; cases q⟩
  keep := fun i h h' st k => let ⟨⟨old, he⟩, hi, hne⟩ := st; ⟨⟨old, k e (by simp) _ he⟩, hi.at fun o q => k it (by simp) o q, hne⟩
  item := by
    intro X hP hw hK hc i pins s σ H E I hf st hg
    subst hP hw hK
    obtain ⟨⟨old, he⟩, hit, hne, hea⟩ := st
    obtain ⟨xs, x, hq, hx⟩ := hg
    obtain ⟨its, rv, p, hz⟩ := I.tuple hq
    obtain ⟨u, hu, ru⟩ := rv.get hx
    have hel : e < s.heap.objs.size := Heap.lt_size he
    have hil : it < s.heap.objs.size := by obtain ⟨_, q, _⟩ := hit; exact Heap.lt_size q
    refine wpAny_pyNext_enum_itemD (Draws.tuple (show X.A.in1.handled = none from I.ok.hd hc) it a hai its.toArray) he ⟨hit, tup_is p⟩ (by have h1 := rv.length; have h2 := (List.getElem?_eq_some_iff.mp hx).1; rw [List.size_toArray]; omega) hne (by simp [hne, hea]) fun x' h' tk hP ho hst' hT hsz hk => ?_
    obtain ⟨hit', ht'⟩ := hst'
    have ex : x' = u := by
      have h1 : its[i]? = some x' := by simpa using hP
      rw [hu] at h1
      exact (Option.some.inj h1).symm
    subst ex
    refine ⟨_, rfl, wpAny_letOwnedTupleGo_enum (s := { s with heap := h', toks := tk + 1 }) ho fun h'' he' sb => ?_⟩
    have hT2 : h''.get? s.heap.objs.size = some { cls := .type "tuple", data := .seq #[.int i tk, x'] } := (sb.2 _ (Nat.ne_of_gt hel)).trans hT
    have new : ObjOk X.prog X.w (upd H s.heap.objs.size (.tup [.int (i : Nat), x])) h'' s.heap.objs.size (.tup [.int (i : Nat), x]) :=
      ⟨by show 2 ≤ sizeLine; decide, [.int i tk, x'], .cons ⟨_, rfl⟩ (.cons ru .nil), ⟨_, hT2, rfl, _, rfl⟩⟩
    have I1 : Inv X pins σ (upd H s.heap.objs.size (.tup [.int (i : Nat), x])) { s with heap := h'', toks := tk + 1 } :=
      I.turnedNew (ch := [e, it]) (fun b ob hb q => (sb.2 b (fun z => hb (by simp [z]))).trans (hk b ob (fun z => hb (by simp [z])) (fun z => hb (by simp [z])) q)) hf (Nat.le_refl _) new
    refine ⟨.ref s.heap.objs.size, _, I1, rfl, ⟨_, x, rfl, I.hok.fresh (Nat.le_refl _), rfl, fun ys hy => by rw [I.tuple_inj hy hq]; exact hx⟩, ⟨⟨x', ?_⟩, hit'.at fun o q => (sb.2 it (Ne.symm hne)).trans q, hne, hea⟩, fun b hb => ?_⟩
    · have e1 : ((i + 1 : Nat) : Int) = (i : Int) + 1 := by omega
      rw [e1]; exact he'
    · have hb' : b < s.heap.objs.size := by
        have e' : b = e ∨ b = it := by simpa using hb
        rcases e' with z | z
        · rw [z]; exact hel
        · rw [z]; exact hil
      rw [upd_ne (Nat.ne_of_lt hb')]
      exact (hf b hb).1
  done := by
    intro X hP hw hK hc i pins s σ H E I hf st hg
    subst hP hw hK
    obtain ⟨⟨old, he⟩, hit, hne, hea⟩ := st
    obtain ⟨xs, hq, hx⟩ := hg
    obtain ⟨its, rv, p, hz⟩ := I.tuple hq
    obtain ⟨f0, f1, f2, f3, f4, f5⟩ := hf it (by simp)
    have hl := rv.length
    have e2 : i = its.toArray.size := by rw [List.size_toArray]; omega
    rw [e2] at hit he
    exact wpAny_pyNext_enum_endD (Draws.tuple (show X.A.in1.handled = none from I.ok.hd hc) it a hai its.toArray) he ⟨hit, tup_is p⟩ fun h' eb => ⟨rfl, I.turned (t' := s.toks) (fun b o hb q => eb b o hb q) f0 f1 f3 f4 f5⟩
  self := fun A i s Q E st h => let ⟨⟨_, he⟩, _⟩ := st; wpAny_pyIter_enum he h
def iEnumT (K : PySem.W.Frag) (ta : TA) : TI := fun σ H R => ta σ H fun vs H1 => ∃ a xs, vs = [.ref a] ∧ SqT K H1 a xs ∧ R (IteT K a) H1
theorem pi_enumT {X : Cx} {e : Expr} {ta : TA} {p pos tpos : Pos} {elts : List Expr} {kk : Nat} (hg : Gl X "enumerate") (hm : X.mg "enumerate" = none) (ha : PA X [e] ta) (hs : starEach [e] X.env = [(false, eval e X.env)] := by rfl) :
    PI X (.Tuple elts kk tpos) (.Call (.Name "enumerate" p) [e] [] pos) (iEnumT X.K ta) := by
  refine ⟨fun pins s σ H R I h => ?_⟩
  refine Call_ (ld_blt I hg hm boot_enumerate (PyProof.Rows.callWith_type1 (thn (ha.run pos pins s σ H _ I h) fun us s1 ⟨vs, H1, I1, r1, q1⟩ => ?_) hs rfl))
  obtain ⟨a, xs, ex, hq, q⟩ := q1
  subst ex
  cases r1 with
  | cons r rr =>
    cases rr
    cases r
    obtain ⟨its, rv, p', hz⟩ := I1.tuple hq
    have hal : a < s1.heap.objs.size := by obtain ⟨o, ho, _⟩ := p'; exact Heap.lt_size ho
    refine call_enumerate_tup (tup_is p') fun h' he hit hsz hk => wpAny_pyIter_enum he ?_
    have I2 : Inv X pins σ H1 { s1 with heap := h' } := I1.kept (t' := s1.toks) hk
    refine ⟨s1.heap.objs.size + 1, [s1.heap.objs.size + 1, s1.heap.objs.size], _, _, H1, rfl, I2, turn_enumTu a (s1.heap.objs.size + 1) s1.heap.objs.size (Nat.ne_of_lt hal), ⟨⟨.none, he⟩, hit, Nat.succ_ne_self _, Nat.ne_of_gt (Nat.lt_succ_of_lt hal)⟩, fun b hb => ?_, q⟩
    have e' : b = s1.heap.objs.size + 1 ∨ b = s1.heap.objs.size := by simpa using hb
    have hle : s1.heap.objs.size ≤ b := by
      rcases e' with z | z
      · rw [z]; exact Nat.le_add_right _ _
      · rw [z]; exact Nat.le_refl _
    exact I1.fpOk hle (I1.hok.fresh hle)
theorem for_enumT {K : PySem.W.Frag} {a : Addr} {xs : List V} {g : TG} {tb : TS} {D : Ends} {σ : L2.St} {H : Hp} (Pv : Nat → L2.St → Hp → Prop) (h0 : Pv 0 σ H) (hl : ∀ i σ H, i ≤ xs.length → Pv i σ H → SqT K H a xs)
    (hs : ∀ (i : Nat) x (T : Addr) σ H, xs[i]? = some x → Pv i σ H → H T = none → g (.ref T) σ (upd H T (.tup [.int i, x])) fun σ2 H2 => tb { D with nx := Pv (i + 1), ct := Pv (i + 1), bk := D.nx } σ2 H2) (hd : ∀ σ H, Pv xs.length σ H → D.nx σ H) :
    ∃ W : Nat → Nat → L2.St → Hp → Prop, (∃ m, W 0 m σ H) ∧ ∀ i m σ H, W i m σ H →
      ((IteT K a).stop i H ∧ D.nx σ H) ∨ ((IteT K a).go i H ∧ ∃ N : L2.St → Hp → Prop, (∀ σ' H', N σ' H' → ∃ m', m' < m ∧ W (i + 1) m' σ' H') ∧ ∀ x H', (IteT K a).yld i H x H' → g x σ H' fun σ2 H2 => tb { D with nx := N, ct := N, bk := D.nx } σ2 H2) := by
  refine ⟨fun i m σ H => m = xs.length - i ∧ i ≤ xs.length ∧ Pv i σ H, ⟨xs.length, by simp, Nat.zero_le _, h0⟩, ?_⟩
  rintro i m σ H ⟨rfl, hi, p⟩
  have q := hl i σ H hi p
  by_cases hlt : i < xs.length
  · refine .inr ⟨⟨xs, xs[i], q, List.getElem?_eq_getElem hlt⟩, Pv (i + 1), fun σ' H' p' => ⟨xs.length - (i + 1), by omega, rfl, hlt, p'⟩, fun x H' y => ?_⟩
    obtain ⟨T, z, rfl, hT, rfl, hz⟩ := y
    exact hs i z T σ H (hz xs q) p hT
  · have e : i = xs.length := by omega
    subst e
    exact .inl ⟨⟨xs, q, rfl⟩, hd σ H p⟩
/-! ### loops over any iterable: the forms one uses -/
theorem lc_it {I : It} {n : Nat} {g : TG} {tt : TT} {te : TE} {vs : List Nat} {σ : L2.St} {H1 : Hp} {D : Addr} {Qd : Hp → Prop} (Pv : Nat → Hp → Prop) (h0 : Pv 0 (upd H1 D (.lst [])))
    (hgo : ∀ i H, i < n → Pv i H → I.go i H) (hst : ∀ H, Pv n H → I.stop n H)
    (hs : ∀ i x H H', i < n → Pv i H → I.yld i H x H' → g x (wipe σ vs) H' fun σ2 H2 => wipe σ2 vs = wipe σ vs ∧ tt σ2 H2 fun b H3 =>
      if b = true then te σ2 H3 fun y H4 => ∃ acc, H4 D = some (.lst acc) ∧ acc.length < sizeLine ∧ Pv (i + 1) (upd H4 D (.lst (acc ++ [y]))) else Pv (i + 1) H3) (hd : ∀ H, Pv n H → Qd H) :
    ∃ W : Nat → Nat → Hp → Prop, (∃ m, W 0 m (upd H1 D (.lst []))) ∧ ∀ i m H, W i m H →
      (I.stop i H ∧ Qd H) ∨ (I.go i H ∧ ∃ Nx : Hp → Prop, (∀ H', Nx H' → ∃ m', m' < m ∧ W (i + 1) m' H') ∧ ∀ x H', I.yld i H x H' → g x (wipe σ vs) H' fun σ2 H2 => wipe σ2 vs = wipe σ vs ∧ tt σ2 H2 fun b H3 =>
        if b = true then te σ2 H3 fun y H4 => ∃ acc, H4 D = some (.lst acc) ∧ acc.length < sizeLine ∧ Nx (upd H4 D (.lst (acc ++ [y]))) else Nx H3) := by
  refine ⟨fun i m H => m = n - i ∧ i ≤ n ∧ Pv i H, ⟨n, by simp, Nat.zero_le _, h0⟩, ?_⟩
  rintro i m H ⟨rfl, hi, p⟩
  by_cases hlt : i < n
  · exact .inr ⟨hgo i H hlt p, Pv (i + 1), fun H' p' => ⟨n - (i + 1), by omega, rfl, hlt, p'⟩, fun x H' y => hs i x H H' hlt p y⟩
  · have e : i = n := by omega
    subst e
    exact .inl ⟨hst H p, hd H p⟩
theorem for_it {I : It} {n : Nat} {g : TG} {tb : TS} {D : Ends} {σ : L2.St} {H : Hp} (Pv : Nat → L2.St → Hp → Prop) (h0 : Pv 0 σ H)
    (hgo : ∀ i σ H, i < n → Pv i σ H → I.go i H) (hst : ∀ σ H, Pv n σ H → I.stop n H)
    (hs : ∀ i x σ H H', i < n → Pv i σ H → I.yld i H x H' → g x σ H' fun σ2 H2 => tb { D with nx := Pv (i + 1), ct := Pv (i + 1), bk := D.nx } σ2 H2) (hd : ∀ σ H, Pv n σ H → D.nx σ H) :
    ∃ W : Nat → Nat → L2.St → Hp → Prop, (∃ m, W 0 m σ H) ∧ ∀ i m σ H, W i m σ H →
      (I.stop i H ∧ D.nx σ H) ∨ (I.go i H ∧ ∃ N : L2.St → Hp → Prop, (∀ σ' H', N σ' H' → ∃ m', m' < m ∧ W (i + 1) m' σ' H') ∧ ∀ x H', I.yld i H x H' → g x σ H' fun σ2 H2 => tb { D with nx := N, ct := N, bk := D.nx } σ2 H2) := by
  refine ⟨fun i m σ H => m = n - i ∧ i ≤ n ∧ Pv i σ H, ⟨n, by simp, Nat.zero_le _, h0⟩, ?_⟩
  rintro i m σ H ⟨rfl, hi, p⟩
  by_cases hlt : i < n
  · exact .inr ⟨hgo i σ H hlt p, Pv (i + 1), fun σ' H' p' => ⟨n - (i + 1), by omega, rfl, hlt, p'⟩, fun x H' y => hs i x σ H H' hlt p y⟩
  · have e : i = n := by omega
    subst e
    exact .inl ⟨hst σ H p, hd σ H p⟩
/-- [.. for i, x in enumerate(xs)] -/
theorem lc_enum {K : PySem.W.Frag} {a : Addr} {xs : List V} {g : TG} {tt : TT} {te : TE} {vs : List Nat} {σ : L2.St} {H1 : Hp} {D : Addr} {Qd : Hp → Prop} (Pv : Nat → Hp → Prop) (h0 : Pv 0 (upd H1 D (.lst []))) (hl : ∀ i H, i ≤ xs.length → Pv i H → SqL K H a xs)
    (hs : ∀ (i : Nat) x (T : Addr) H, xs[i]? = some x → Pv i H → H T = none → g (.ref T) (wipe σ vs) (upd H T (.tup [.int i, x])) fun σ2 H2 => wipe σ2 vs = wipe σ vs ∧ tt σ2 H2 fun b H3 =>
      if b = true then te σ2 H3 fun y H4 => ∃ acc, H4 D = some (.lst acc) ∧ acc.length < sizeLine ∧ Pv (i + 1) (upd H4 D (.lst (acc ++ [y]))) else Pv (i + 1) H3) (hd : ∀ H, Pv xs.length H → Qd H) :
    ∃ W : Nat → Nat → Hp → Prop, (∃ m, W 0 m (upd H1 D (.lst []))) ∧ ∀ i m H, W i m H →
      ((Ite K a).stop i H ∧ Qd H) ∨ ((Ite K a).go i H ∧ ∃ Nx : Hp → Prop, (∀ H', Nx H' → ∃ m', m' < m ∧ W (i + 1) m' H') ∧ ∀ x H', (Ite K a).yld i H x H' → g x (wipe σ vs) H' fun σ2 H2 => wipe σ2 vs = wipe σ vs ∧ tt σ2 H2 fun b H3 =>
        if b = true then te σ2 H3 fun y H4 => ∃ acc, H4 D = some (.lst acc) ∧ acc.length < sizeLine ∧ Nx (upd H4 D (.lst (acc ++ [y]))) else Nx H3) := by
  refine lc_it (I := Ite K a) (n := xs.length) Pv h0 (fun i H hi p => ⟨xs, xs[i], hl i H (Nat.le_of_lt hi) p, List.getElem?_eq_getElem hi⟩) (fun H p => ⟨xs, hl _ H (Nat.le_refl _) p, Nat.le_refl _⟩) ?_ hd
  rintro i x H H' hi p ⟨T, z, rfl, hT, rfl, hz⟩
  exact hs i z T H (hz xs (hl i H (Nat.le_of_lt hi) p)) p hT
theorem for_enum' {K : PySem.W.Frag} {a : Addr} {xs : List V} {g : TG} {tb : TS} {D : Ends} {σ : L2.St} {H : Hp} (Pv : Nat → L2.St → Hp → Prop) (h0 : Pv 0 σ H) (hl : ∀ i σ H, i ≤ xs.length → Pv i σ H → SqL K H a xs)
    (hs : ∀ (i : Nat) x (T : Addr) σ H, xs[i]? = some x → Pv i σ H → H T = none → g (.ref T) σ (upd H T (.tup [.int i, x])) fun σ2 H2 => tb { D with nx := Pv (i + 1), ct := Pv (i + 1), bk := D.nx } σ2 H2) (hd : ∀ σ H, Pv xs.length σ H → D.nx σ H) :
    ∃ W : Nat → Nat → L2.St → Hp → Prop, (∃ m, W 0 m σ H) ∧ ∀ i m σ H, W i m σ H →
      ((Ite K a).stop i H ∧ D.nx σ H) ∨ ((Ite K a).go i H ∧ ∃ N : L2.St → Hp → Prop, (∀ σ' H', N σ' H' → ∃ m', m' < m ∧ W (i + 1) m' σ' H') ∧ ∀ x H', (Ite K a).yld i H x H' → g x σ H' fun σ2 H2 => tb { D with nx := N, ct := N, bk := D.nx } σ2 H2) := by
  refine for_it (I := Ite K a) (n := xs.length) Pv h0 (fun i σ H hi p => ⟨xs, xs[i], hl i σ H (Nat.le_of_lt hi) p, List.getElem?_eq_getElem hi⟩) (fun σ H p => ⟨xs, hl _ σ H (Nat.le_refl _) p, Nat.le_refl _⟩) ?_ hd
  rintro i x σ H H' hi p ⟨T, z, rfl, hT, rfl, hz⟩
  exact hs i z T σ H (hz xs (hl i σ H (Nat.le_of_lt hi) p)) p hT
/-- xs[i] of a list, as a value -/
theorem get_listI {X : Cx} : PGet X (rIxL X.K) := by
  intro pins s σ H o i ov iv Q I ro ri h
  obtain ⟨p, xs, k, z, rfl, rfl, hq, he, q⟩ := h
  cases ro
  obtain ⟨t, rfl⟩ := ri
  obtain ⟨its, r, pl, hz⟩ := I.list hq
  obtain ⟨j, h1, h2, h3, h4, h5⟩ := atI_get he
  obtain ⟨w, ew, rw'⟩ := r.get h2
  have hl := r.length
  have hn := line63
  have fin : EP X pins σ Q w s := ⟨z, H, I, rw', q⟩
  by_cases h0 : 0 ≤ k
  · have hj : k.toNat = j := by
      rw [seqIndex_of h0 h5] at h1
      exact Option.some.inj h1
    exact wpAny_getItem_list pl.isList h0 (by omega) (by rw [hj]; simpa using ew) fin
  · have hj : (k + (its.toArray.size : Int)).toNat = j := by
      rw [seqIndex_neg (by omega) h4] at h1
      rw [List.size_toArray, ← hl]
      exact Option.some.inj h1
    exact wpAny_getItem_list_neg pl.isList (by omega) (by rw [List.size_toArray] <;> omega) (by omega) (by rw [hj]; simpa using ew) fin
end Toy
/-! ### list(enumerate(t)), t a tuple (wants enumt.inc) -/
namespace PySem
theorem enum_no_len' : typeLookup (.type "enumerate") "__len__" = pure none := by rw [typeLookup_type, builtinLookup_eq_fast]; kernel_rfl
theorem enum_no_hint' : typeLookup (.type "enumerate") "__length_hint__" = pure none := by rw [typeLookup_type, builtinLookup_eq_fast]; kernel_rfl
section
variable {prog : Program} {w : World} {A : Around} {E : Value → Shared → Prop} {s : Shared}
theorem enum_next_heldD {e it T : Addr} {fp : List Addr} {n i : Nat} {P : Nat → Value → Prop} {St : Nat → Heap → Prop} {old : Value} {f : Bool} {oT : Obj} {Q : Value → Shared → Prop}
    (D : Draws prog w A it fp n P St) (he : IsEnumHeld s.heap e it i old T f) (hT : s.heap.get? T = some oT) (hTe : T ≠ e) (hTi : T ≠ it) (hst : St i s.heap) (hlt : i < n) (hne : e ≠ it) (hef : e ∉ fp)
    (hQ : ∀ x h' tk, P i x → IsEnumHeld h' e it ((i : Int) + 1) old T true → St (i + 1) h' →
      h'.get? s.heap.objs.size = some { cls := .type "tuple", data := .seq #[.int i tk, x] } → h'.objs.size = s.heap.objs.size + 1 →
      (∀ b o, b ≠ e → b ≠ it → s.heap.get? b = some o → h'.get? b = some o) → Q (.ref s.heap.objs.size) { s with heap := h', toks := tk + 1 }) :
    wpAny (model prog w) A (Builtin.«enumerate.__next__» ⟨[.ref e], []⟩) (fun fin s' => ∃ v, fin = .done (.ret v) ∧ Q v s') E s := by
  obtain ⟨hp, g, d, tk₀, os⟩ := s
  show wpAny _ _ (field (.ref e) 2 >>= _) _ _ _
  refine wpAny_bind (wpAny_field he rfl (x := .ref it) rfl ?_)
  refine wpAny_bind (D.item i _ _ _ hlt hst fun x h₁ tk hPx hit₁ hs₁ => ?_)
  replace hs₁ : Heap.SameBut it hp h₁ := hs₁
  have he₁ : IsEnumHeld h₁ e it i old T f := (hs₁.2 e hne).trans he
  show wpAny _ _ (field (.ref e) 3 >>= _) _ _ ⟨h₁, g, d, tk, os⟩
  refine wpAny_bind (wpAny_field he₁ rfl (x := rawInt i) rfl ?_)
  show wpAny _ _ (field (.ref e) 4 >>= _) _ _ ⟨h₁, g, d, tk, os⟩
  refine wpAny_bind (wpAny_field he₁ rfl (x := .none) rfl ?_)
  show wpAny _ _ (mkInt i >>= _) _ _ ⟨h₁, g, d, tk, os⟩
  refine wpAny_bind (wpAny_mkInt ?_)
  show wpAny _ _ (setField (.ref e) 3 (rawInt ((i : Int) + 1)) >>= _) _ _ ⟨h₁, g, d, tk + 1, os⟩
  refine wpAny_bind (wpAny_setField_rec he₁ (by simp) fun h₂ he₂ hs₂ => ?_)
  replace hs₂ : Heap.SameBut e h₁ h₂ := hs₂
  replace he₂ : IsEnumHeld h₂ e it ((i : Int) + 1) old T f := he₂
  show wpAny _ _ (setField (.ref e) 4 .none >>= _) _ _ ⟨h₂, g, d, tk + 1, os⟩
  refine wpAny_bind (wpAny_setField_rec he₂ (by simp) fun h₃ he₃ hs₃ => ?_)
  replace hs₃ : Heap.SameBut e h₂ h₃ := hs₃
  replace he₃ : IsEnumHeld h₃ e it ((i : Int) + 1) old T f := he₃
  show wpAny _ _ (newTuple [.int i tk, x] >>= _) _ _ ⟨h₃, g, d, tk + 1, os⟩
  refine wpAny_bind (wpAny_newTuple ?_)
  have he₄ : IsEnumHeld (h₃.push { cls := .type "tuple", data := .seq #[.int i tk, x] }) e it ((i : Int) + 1) old T f := Heap.get?_push_of_some _ he₃
  generalize hh₄ : h₃.push { cls := .type "tuple", data := .seq #[.int i tk, x] } = h₄ at he₄
  have hsz : h₃.objs.size = hp.objs.size := by rw [hs₃.1, hs₂.1, hs₁.1]
  have hel : e < hp.objs.size := Heap.lt_size he
  have ht₄ : h₄.get? hp.objs.size = some { cls := .type "tuple", data := .seq #[.int i tk, x] } := by rw [← hh₄, ← hsz]; exact Heap.get?_push_size _ rfl
  have hz₄ : h₄.objs.size = hp.objs.size + 1 := by rw [← hh₄, Heap.size_push, hsz]
  have hk₄ : ∀ b o, b ≠ e → b ≠ it → hp.get? b = some o → h₄.get? b = some o := fun b o hbe hbi hb => by
    rw [← hh₄]; exact Heap.get?_push_of_some _ (hs₃.extBut b o hbe (hs₂.extBut b o hbe (hs₁.extBut b o hbi hb)))
  have hit₄ : St (i + 1) h₄ := D.frame _ _ _ hit₁ fun b hb o y => by
    have hbe : b ≠ e := fun q => hef (q ▸ hb)
    rw [← hh₄]; exact Heap.get?_push_of_some _ (hs₃.extBut b o hbe (hs₂.extBut b o hbe y))
  show wpAny _ _ (Builtin.SmallTypes.ownedTupleIsFree (.ref e) >>= _) _ _ ⟨h₄, g, d, tk + 1, os⟩
  rw [hsz]
  clear hh₄ he₃ hs₃ he₂ hs₂ he₁ hs₁ hit₁ hsz h₃ h₂ h₁
  refine wpAny_bind (wpAny_tupleHeld_enum (s := ⟨h₄, g, d, tk + 1, os⟩) he₄ (hk₄ T oT hTe hTi hT) fun h₅ he₅ hs₅ => ?_)
  replace hs₅ : Heap.SameBut e h₄ h₅ := hs₅
  simp only [Bool.false_eq_true, if_false]
  refine wpAny_pure ⟨_, rfl, hQ x h₅ tk hPx he₅ ?_ (hs₅.extBut _ _ (Nat.ne_of_gt hel) ht₄) ?_ fun b o hbe hbi hb => hs₅.extBut b o hbe (hk₄ b o hbe hbi hb)⟩
  · exact D.frame _ _ _ hit₄ fun b hb o y => by
      have hbe : b ≠ e := fun q => hef (q ▸ hb)
      exact hs₅.extBut b o hbe y
  · show h₅.objs.size = hp.objs.size + 1
    rw [hs₅.1, hz₄]
theorem pyNext_enum_heldD {e it T : Addr} {fp : List Addr} {n i : Nat} {P : Nat → Value → Prop} {St : Nat → Heap → Prop} {old : Value} {f : Bool} {oT : Obj} {Q : Option Value → Shared → Prop}
    (D : Draws prog w A.in1 it fp n P St) (he : IsEnumHeld s.heap e it i old T f) (hT : s.heap.get? T = some oT) (hTe : T ≠ e) (hTi : T ≠ it) (hst : St i s.heap) (hlt : i < n) (hne : e ≠ it) (hef : e ∉ fp)
    (hQ : ∀ x h' tk, P i x → IsEnumHeld h' e it ((i : Int) + 1) old T true → St (i + 1) h' →
      h'.get? s.heap.objs.size = some { cls := .type "tuple", data := .seq #[.int i tk, x] } → h'.objs.size = s.heap.objs.size + 1 →
      (∀ b o, b ≠ e → b ≠ it → s.heap.get? b = some o → h'.get? b = some o) → Q (some (.ref s.heap.objs.size)) { s with heap := h', toks := tk + 1 }) :
    wpAny (model prog w) A (pyNext (.ref e)) Q E s := by
  have hTy : s.TypeIs (.ref e) "enumerate" := ⟨_, he, rfl⟩
  unfold pyNext
  exact wpAny_bind (wpAny_attempt (wpAny_callSpecial?_slot (name := Str.ofString "__next__") hTy F.slot_enumerate_next
    (wpAny_call_entry F.slot_enumerate_next hTy F.entry_enumerate_next
      (enum_next_heldD D he hT hTe hTi hst hlt hne hef fun x h' tk a0 a1 a2 a3 a4 a5 => wpAny_pure (hQ x h' tk a0 a1 a2 a3 a4 a5)) (F.args_enumerate_next_1 _))))
theorem pyNext_enum_end_heldD {e it T : Addr} {fp : List Addr} {n : Nat} {P : Nat → Value → Prop} {St : Nat → Heap → Prop} {i : Int} {old : Value} {f : Bool} {Q : Option Value → Shared → Prop}
    (D : Draws prog w A.in1 it fp n P St) (he : IsEnumHeld s.heap e it i old T f) (hst : St n s.heap)
    (hQ : ∀ h', Heap.ExtBut it s.heap h' → Q none { s with heap := h' }) : wpAny (model prog w) A (pyNext (.ref e)) Q E s := by
  have hT : s.TypeIs (.ref e) "enumerate" := ⟨_, he, rfl⟩
  unfold pyNext
  refine wpAny_bind (wpAny_attempt (wpAny_callSpecial?_slot (name := Str.ofString "__next__") hT F.slot_enumerate_next
    (wpAny_call_entry F.slot_enumerate_next hT F.entry_enumerate_next ?_ (F.args_enumerate_next_1 _))))
  show wpAny _ _ (field (.ref e) 2 >>= _) _ _ _
  refine wpAny_bind (wpAny_field he rfl (x := .ref it) rfl ?_)
  refine wpAny_bind (D.done _ _ _ hst fun h' x he' hx' => ?_)
  obtain ⟨o, ho, hc⟩ := hx'
  refine wpAny_bind (wpAny_isInstance (T := "StopIteration") (b := true) ⟨o, ho, hc⟩ isSubtype_stop ?_)
  exact wpAny_pure (hQ _ he')
end
end PySem
namespace Toy
open PySem PySem.Spec PyProof.Rows L2
open Sem (wp)
/-- the enumerator, its tuple iterator; the last pair that it made is held by the list -/
def est (e it a S : Addr) (i : Nat) (h : Heap) : Prop := h.IsTupleIter it a i ∧ ((∃ old, IsEnum h e it ((i : Nat) : Int) old) ∨ ∃ old T f oT, IsEnumHeld h e it ((i : Nat) : Int) old T f ∧ h.get? T = some oT ∧ T ≠ e ∧ T ≠ it ∧ T ≠ S)
theorem est.at {e it a S : Addr} {i : Nat} {h h' : Heap} (n1 : S ≠ e) (n2 : S ≠ it) (k : ∀ b o, b ≠ S → h.get? b = some o → h'.get? b = some o) (st : est e it a S i h) : est e it a S i h' := by
  obtain ⟨h1, hz⟩ := st
  refine ⟨h1.at fun o q => k _ o (Ne.symm n2) q, ?_⟩
  rcases hz with ⟨old, hz⟩ | ⟨old, T, f, oT, hz, hT, r1, r2, r3⟩
  · exact .inl ⟨old, k _ _ (Ne.symm n1) hz⟩
  · exact .inr ⟨old, T, f, oT, k _ _ (Ne.symm n1) hz, k _ _ r3 hT, r1, r2, r3⟩
def IxAt (H : Hp) (ts : List Addr) (xs : List V) : Prop := ∀ (j : Nat) (t : Addr) (x : V), ts[j]? = some t → xs[j]? = some x → H t = some (.tup [.int (j : Nat), x])
theorem ext_enum {X : Cx} {pins : List (Addr × Obj)} {σ : L2.St} {e it a S : Addr} {A : Around} {R : Result → Shared → Prop} (hA : A.in1.in1.handled = none) (hai : a ≠ it) (hei : e ≠ it) (hea : e ≠ a) {xs : List V} (h1000 : xs.length ≤ 1000)
    (nS : S ≠ e ∧ S ≠ it) (res : Value) (H0 : Hp) (hq : ∀ H', But S H0 H' → SqT X.K H' a xs) :
    ∀ (k i : Nat) (s : Shared) (H : Hp) (ts : List Addr), xs.length - i = k → i ≤ xs.length → Inv X pins σ H s → (∀ b ∈ [e, it], FpOk X pins H b) → est e it a S i s.heap → But S H0 H →
    H S = some (.lst (ts.map V.ref)) → ts.length = i → IxAt H ts xs →
    (∀ s' H' ts', Inv X pins σ H' s' → But S H0 H' → H' S = some (.lst (ts'.map V.ref)) → ts'.length = xs.length → IxAt H' ts' xs → R (.ok (.ret res)) s') →
    codeAny (model X.prog X.w) A (.builtin "list.extend.loop" ⟨[.ref S, .ref e, res], []⟩) R s := by
  have hline : 1000 ≤ sizeLine := small (Nat.le_refl _)
  intro k
  induction k with
  | zero =>
    intro i s H ts hk hi I hf st hB hS hts hc hR
    have hin : i = xs.length := by omega
    obtain ⟨hit, hz⟩ := st
    have q1 := hq H hB
    obtain ⟨its, rv, p1, _⟩ := I.tuple q1
    have l1' := rv.length
    have e2 : i = its.toArray.size := by rw [List.size_toArray]; omega
    refine codeAny_builtin F.entry_extend_loop ?_
    rw [Around.under_plainId F.plain_extend_loop _]
    show wpAny _ A.in1 (pyNext (.ref e) >>= _) _ _ s
    refine wpAny_bind ?_
    have fin : ∀ h', Heap.ExtBut it s.heap h' → R (.ok (.ret res)) { s with heap := h' } := fun h' hk =>
      hR _ H ts (I.turnedL (t' := s.toks) (ch := [e, it]) (fun c o hb q => hk c o (fun q' => hb (by simp [q'])) q) hf) hB hS (by omega) hc
    rcases hz with ⟨old, hz⟩ | ⟨old, T, f, oT, hz, hT, r1, r2, r3⟩
    · rw [e2] at hit hz
      exact wpAny_pyNext_enum_endD (Draws.tuple hA it a hai its.toArray) hz ⟨hit, tup_is p1⟩ fun h' hk => wpAny_pure (fin h' hk)
    · rw [e2] at hit hz
      exact pyNext_enum_end_heldD (Draws.tuple hA it a hai its.toArray) hz ⟨hit, tup_is p1⟩ fun h' hk => wpAny_pure (fin h' hk)
  | succ k ih =>
    intro i s H ts hk hi I hf st hB hS hts hc hR
    have hlt : i < xs.length := by omega
    obtain ⟨hit, hz⟩ := st
    have q1 := hq H hB
    obtain ⟨its, rv, p1, _⟩ := I.tuple q1
    obtain ⟨u, hu, ru⟩ := rv.get (List.getElem?_eq_getElem hlt)
    have lt : ∀ {c o}, s.heap.get? c = some o → s.heap.objs.size ≠ c := fun e => Nat.ne_of_gt (Heap.lt_size e)
    have nit : s.heap.objs.size ≠ it := let ⟨_, e, _⟩ := hit; lt e
    have hfr : H s.heap.objs.size = none := I.hok.fresh (Nat.le_refl _)
    have nNS : S ≠ s.heap.objs.size := ne_of_none hS hfr
    refine codeAny_builtin F.entry_extend_loop ?_
    rw [Around.under_plainId F.plain_extend_loop _]
    show wpAny _ A.in1 (pyNext (.ref e) >>= _) _ _ s
    refine wpAny_bind ?_
    have ne : s.heap.objs.size ≠ e := by
      rcases hz with ⟨_, hz⟩ | ⟨_, _, _, _, hz, _⟩
      · exact lt hz
      · exact lt hz
    have hsz : i < its.toArray.size := by have h1 := rv.length; rw [List.size_toArray]; omega
    -- one step on
    have on : ∀ x' h' tk, its.toArray[i]? = some x' → h'.get? s.heap.objs.size = some { cls := .type "tuple", data := .seq #[.int i tk, x'] } → (∀ c o, c ≠ e → c ≠ it → s.heap.get? c = some o → h'.get? c = some o) → est e it a S (i + 1) h' →
        wpAny (model X.prog X.w) A.in1 (updateSeq S (·.push (.ref s.heap.objs.size)) >>= fun _ => again (.builtin "list.extend.loop" ⟨[.ref S, .ref e, res], []⟩))
          (fun fin s' => match fin with | .done f => R (.ok f) s' | .again c' => c'.quiet = true ∧ codeAny (model X.prog X.w) A c' R s') (fun e s' => R (.error e) s') { s with heap := h', toks := tk + 1 } := by
      intro x' h' tk hP a5 hk' st'
      have ex : x' = u := by
        have h1 : its[i]? = some x' := by simpa using hP
        rw [hu] at h1
        exact (Option.some.inj h1).symm
      subst ex
      have new : ObjOk X.prog X.w (upd H s.heap.objs.size (.tup [.int (i : Nat), xs[i]])) h' s.heap.objs.size (.tup [.int (i : Nat), xs[i]]) :=
        ⟨by show 2 ≤ sizeLine; decide, [.int i tk, x'], .cons ⟨_, rfl⟩ (.cons ru .nil), ⟨_, a5, rfl, _, rfl⟩⟩
      have I1 : Inv X pins σ (upd H s.heap.objs.size (.tup [.int (i : Nat), xs[i]])) { s with heap := h', toks := tk + 1 } :=
        I.turnedNew (t' := tk + 1) (ch := [e, it]) (fun c o hb q => hk' c o (fun q' => hb (by simp [q'])) (fun q' => hb (by simp [q'])) q) hf (Nat.le_refl _) new
      have hS1 : (upd H s.heap.objs.size (.tup [.int (i : Nat), xs[i]])) S = some (.lst (ts.map V.ref)) := by rw [upd_ne nNS]; exact hS
      obtain ⟨hz1, its3, n3, rv3, hl3, hS3⟩ := I1.lstM hS1
      have hl3' : its3.length = i := by rw [← hl3, List.length_map, hts]
      have I2 := I1.lset (f := (·.push (.ref s.heap.objs.size))) (ys := (ts ++ [s.heap.objs.size]).map V.ref) (its' := its3 ++ [.ref s.heap.objs.size]) (t' := tk + 1) hS1 hS3 (by simp) (by rw [List.map_append]; exact rv3.append (.cons rfl .nil)) (by rw [List.length_map, List.length_append, hts]; show i + 1 ≤ sizeLine; omega)
      refine wpAny_bind ?_
      refine wpAny_updateSeq hS3 rfl (wpAny_pure ⟨plainId_quiet F.plain_extend_loop _, ih (i + 1) _ _ (ts ++ [s.heap.objs.size]) (by omega) hlt I2 (fun b hb => ?_) (st'.at nS.1 nS.2 fun b o hb e => (Heap.get?_update_other _ _ (Ne.symm hb)).trans e) ?_ upd_same (by rw [List.length_append, hts] <;> rfl) ?_ hR⟩) (by rw [List.size_toArray]; omega) (by simp; omega)
      · have h0 := hf b hb
        refine ⟨?_, h0.2⟩
        have nb : b ≠ s.heap.objs.size := by
          simp only [List.mem_cons, List.not_mem_nil, or_false] at hb
          rcases hb with rfl | rfl
          · exact Ne.symm ne
          · exact Ne.symm nit
        have nb2 : b ≠ S := by
          simp only [List.mem_cons, List.not_mem_nil, or_false] at hb
          rcases hb with rfl | rfl
          · exact Ne.symm nS.1
          · exact Ne.symm nS.2
        rw [upd_ne nb2, upd_ne nb]
        exact h0.1
      · exact fun c o hc e => by
          have e' := hB c o hc e
          rw [upd_ne hc, upd_ne (ne_of_none e' hfr)]
          exact e'
      · intro j t x hj hx
        by_cases c : j < i
        · rw [List.getElem?_append_left (by omega)] at hj
          have h5 := hc j t x hj hx
          have nt : t ≠ S := ne_of h5 hS (by intro w; cases w)
          rw [upd_ne nt, upd_ne (ne_of_none h5 hfr)]
          exact h5
        · have hj2 := (List.getElem?_eq_some_iff.mp hj).1
          rw [List.length_append] at hj2
          have hj3 : j < ts.length + 1 := hj2
          have : j = i := by omega
          subst this
          rw [List.getElem?_append_right (by omega), hts, Nat.sub_self] at hj
          cases (Option.some.inj hj)
          rw [List.getElem?_eq_getElem hlt] at hx
          cases (Option.some.inj hx)
          rw [upd_ne (Ne.symm nNS), upd_same]
    have ei : ((i + 1 : Nat) : Int) = (i : Int) + 1 := by omega
    rcases hz with ⟨old, hz⟩ | ⟨old, T, f, oT, hz, hT, r1, r2, r3⟩
    · refine wpAny_pyNext_enum_itemD (Draws.tuple hA it a hai its.toArray) hz ⟨hit, tup_is p1⟩ hsz hei (by simp [hei, hea]) fun x' h' tk hP ho hst' hT' hsz' hk' => ?_
      exact on x' h' tk hP hT' hk' ⟨hst'.1, .inr ⟨x', s.heap.objs.size, false, _, by rw [ei]; exact ho, hT', ne, nit, Ne.symm nNS⟩⟩
    · refine pyNext_enum_heldD (Draws.tuple hA it a hai its.toArray) hz hT r1 r2 ⟨hit, tup_is p1⟩ hsz hei (by simp [hei, hea]) fun x' h' tk hP ho hst' hT' hsz' hk' => ?_
      exact on x' h' tk hP hT' hk' ⟨hst'.1, .inr ⟨old, T, true, oT, by rw [ei]; exact ho, hk' _ _ r1 r2 hT, r1, r2, r3⟩⟩
theorem list_of_enum {X : Cx} {pins : List (Addr × Obj)} {σ : L2.St} {H : Hp} {s : Shared} (I : Inv X pins σ H s) (hcalm : X.calm = true) {e it a : Addr} (hai : a ≠ it) (hei : e ≠ it) (hea : e ≠ a) {xs : List V} (h1000 : xs.length ≤ 1000)
    (he : IsEnum s.heap e it ((0 : Nat) : Int) .none) (hit : s.heap.IsTupleIter it a 0)
    (hf : ∀ b ∈ [e, it], FpOk X pins H b) (hq1 : SqT X.K H a xs) {Q : VK}
    (q : ∀ S ts H2, Same H H2 → H S = none → H2 S = some (.lst (ts.map V.ref)) → ts.length = xs.length → IxAt H2 ts xs → Q (.ref S) H2) :
    wpAny (model X.prog X.w) X.A (call (.type "list") [.ref e]) (EP X pins σ Q) X.xe s := by
  have hh : X.A.in1.in1.in1.handled = none := show X.A.handled = none from I.ok.hd hcalm
  have ne : s.heap.objs.size ≠ e := Nat.ne_of_gt (Heap.lt_size he)
  have nit : s.heap.objs.size ≠ it := let ⟨_, e, _⟩ := hit; Nat.ne_of_gt (Heap.lt_size e)
  have hfr : H s.heap.objs.size = none := I.hok.fresh (Nat.le_refl _)
  refine callType_codes (Q₁ := fun obj s₁ => obj = .ref s.heap.objs.size ∧ s₁ = { s with heap := s.heap.push { cls := .type "list", data := .seq #[] } }) F.called_list (F.typeCall_list_1 _) F.entry_list_init
    (code_list_new _ ⟨rfl, rfl⟩) fun obj s₁ h₁ => ?_
  obtain ⟨rfl, rfl⟩ := h₁
  have hS : (s.heap.push { cls := .type "list", data := .seq #[] }).get? s.heap.objs.size = some { cls := .type "list", data := .seq #[] } := Heap.get?_push_size _ rfl
  refine ⟨⟨_, hS, rfl⟩, F.args_list_init_2 _ _, ?_⟩
  show wpAny _ X.A.in1.in1 (do let old ← Builtin.List.listItems (.ref s.heap.objs.size); Builtin.List.listUpdate (.ref s.heap.objs.size) (fun _ => #[]); letGo old.toList.reverse; Builtin.List.listExtendWith (.ref s.heap.objs.size) (.ref e) .none) _ _ _
  refine wpAny_bind ?_
  unfold Builtin.List.listItems
  refine wpAny_bind (wpAny_seqItems hS rfl (wpAny_pure ?_))
  show wpAny _ X.A.in1.in1 (updateSeq s.heap.objs.size (fun _ => #[]) >>= fun _ => letGo (#[] : Array Value).toList.reverse >>= fun _ => Builtin.List.listExtendWith (.ref s.heap.objs.size) (.ref e) .none) _ _ _
  refine wpAny_bind (wpAny_updateSeq hS rfl ?_)
  have hS₂ := Heap.get?_update_self (Obj.mapSeq (fun _ => (#[] : Array Value))) hS rfl
  have oth : ∀ b o, b ≠ s.heap.objs.size → s.heap.get? b = some o → ((s.heap.push { cls := .type "list", data := .seq #[] }).update s.heap.objs.size (Obj.mapSeq (fun _ => (#[] : Array Value)))).get? b = some o :=
    fun b o hb e => (Heap.get?_update_other _ _ (Ne.symm hb)).trans (Heap.get?_push_of_some _ e)
  refine wpAny_bind (wpAny_letGo ?_)
  generalize hh2 : (s.heap.push { cls := .type "list", data := .seq #[] }).update s.heap.objs.size (Obj.mapSeq (fun _ => (#[] : Array Value))) = hp2 at hS₂ oth
  unfold Builtin.List.listExtendWith
  refine wpAny_bind (wpAny_typeOf (T := "enumerate") ⟨_, oth _ _ (Ne.symm ne) he, rfl⟩ ?_)
  have g1 : Builtin.List.listSameRef (.ref s.heap.objs.size) (.ref e) = false := by simp [Builtin.List.listSameRef, ne]
  have g2 : (Value.type "enumerate" == Value.type "list") = false := by decide
  have g3 : (Value.type "enumerate" == Value.type "tuple") = false := by decide
  simp only [g1, g2, g3, Bool.or_false, Bool.false_eq_true, if_false]
  refine wpAny_bind (wpAny_pyIter_enum (oth _ _ (Ne.symm ne) he) ?_)
  refine wpAny_bind (wpAny_holding ?_)
  unfold Builtin.List.listLengthHint
  refine wpAny_bind (wpAny_specialOf (T := "enumerate") ⟨_, oth _ _ (Ne.symm ne) he, rfl⟩ enum_no_len' ?_)
  show wpAny _ X.A.in1.in1 (specialOf (Value.ref e) (Str.ofString "__length_hint__") >>= _) _ _ _
  refine wpAny_bind (wpAny_specialOf (T := "enumerate") ⟨_, oth _ _ (Ne.symm ne) he, rfl⟩ enum_no_hint' ?_)
  refine wpAny_pure ?_
  show wpAny _ X.A.in1.in1 (rule "list.extend.makes-room" >>= fun _ => Builtin.List.listTouch (.ref s.heap.objs.size) >>= fun _ =>
    again (.builtin "list.extend.loop" ⟨[.ref s.heap.objs.size, .ref e, .none], []⟩)) _ _ _
  refine wpAny_bind (wpAny_rule ?_)
  refine wpAny_bind ?_
  show wpAny _ X.A.in1.in1 (updateSeq s.heap.objs.size (·.push .none) >>= fun _ => updateSeq s.heap.objs.size (·.pop)) _ _ _
  refine wpAny_bind (wpAny_updateSeq hS₂ rfl ?_)
  have hS₃ := Heap.get?_update_self (Obj.mapSeq (·.push Value.none)) hS₂ rfl
  refine wpAny_updateSeq (hz := by seq_fits) hS₃ rfl ?_
  have hS₄ := Heap.get?_update_self (Obj.mapSeq (·.pop)) hS₃ rfl
  have oth2 : ∀ b o, b ≠ s.heap.objs.size → s.heap.get? b = some o → ((hp2.update s.heap.objs.size (Obj.mapSeq (·.push Value.none))).update s.heap.objs.size (Obj.mapSeq (·.pop))).get? b = some o :=
    fun b o hb e => (Heap.get?_update_other _ _ (Ne.symm hb)).trans ((Heap.get?_update_other _ _ (Ne.symm hb)).trans (oth b o hb e))
  have new : ObjOk X.prog X.w (upd H s.heap.objs.size (.lst [])) ((hp2.update s.heap.objs.size (Obj.mapSeq (·.push Value.none))).update s.heap.objs.size (Obj.mapSeq (·.pop))) s.heap.objs.size (.lst []) :=
    ⟨Nat.zero_le _, [], _, .nil, hS₄⟩
  have I1 : Inv X pins σ (upd H s.heap.objs.size (.lst [])) { s with heap := (hp2.update s.heap.objs.size (Obj.mapSeq (·.push Value.none))).update s.heap.objs.size (Obj.mapSeq (·.pop)) } :=
    I.laid (t' := s.toks) (fun b u e => oth2 b u (Nat.ne_of_lt (Heap.lt_size e)) e) (Nat.le_refl _) new
  have S1 := same_new hfr (.lst [])
  refine wpAny_pure ⟨plainId_quiet F.plain_extend_loop _, ext_enum (A := X.A.in1) (R := wants (fun r s₂ => r = Value.none ∧ EP X pins σ Q (Value.ref s.heap.objs.size) s₂) X.xe) hh hai hei hea h1000 ⟨ne, nit⟩ .none (upd H s.heap.objs.size (.lst [])) (fun H' B' => ?_) (xs.length - 0) 0 _ _ [] rfl (Nat.zero_le _) I1 (fun b hb => ?_) ?_ But.refl upd_same rfl (fun j t x hj => by simp at hj) fun s' H' ts' I' B' hS' hl' hp' => ⟨rfl, .ref s.heap.objs.size, H', I', rfl, q _ ts' H' (but_same hfr S1 B') hfr hS' hl' hp'⟩⟩
  · exact same_tup (but_same hfr S1 B') hq1
  · have h0 := hf b hb
    refine ⟨?_, h0.2⟩
    have nb2 : b ≠ s.heap.objs.size := by
      simp only [List.mem_cons, List.not_mem_nil, or_false] at hb
      rcases hb with rfl | rfl
      · exact Ne.symm ne
      · exact Ne.symm nit
    rw [upd_ne nb2]
    exact h0.1
  · exact ⟨hit.at fun o q => oth2 _ o (Ne.symm nit) q, .inl ⟨.none, oth2 _ _ (Ne.symm ne) he⟩⟩
def tListEnT (K : PySem.W.Frag) (ta : TA) : TE := fun σ H Q => ta σ H fun vs H1 => ∃ a xs, vs = [.ref a] ∧ SqT K H1 a xs ∧ xs.length ≤ 1000 ∧
  ∀ S ts H2, Same H1 H2 → H1 S = none → H2 S = some (.lst (ts.map V.ref)) → ts.length = xs.length → IxAt H2 ts xs → Q (.ref S) H2
theorem pe_listEnT {X : Cx} {e : Expr} {ta : TA} {p p2 pos pos2 : Pos} (hc : X.calm = true) (hg0 : Gl X "list") (hm0 : X.mg "list" = none) (hg : Gl X "enumerate") (hm : X.mg "enumerate" = none) (ha : PA X [e] ta)
    (hs : starEach [e] X.env = (false, eval e X.env) :: starEach [] X.env := by rfl) (hpl : (backTo pos2 (starEach [] X.env)).any (·.1) = false := by rfl)
    (na : starEach [.Call (.Name "enumerate" p2) [e] [] pos2] X.env = (false, eval (.Call (.Name "enumerate" p2) [e] [] pos2) X.env) :: starEach [] X.env := by rfl) :
    PE X (.Call (.Name "list" p) [.Call (.Name "enumerate" p2) [e] [] pos2] [] pos) (tListEnT X.K ta) := by
  refine ⟨fun pins s σ H Q I h => ?_⟩
  refine Call_ (ld_blt I hg0 hm0 boot_list (PyProof.Rows.callWith_type1 (args_cons ?_ na) na))
  refine Call_ (ld_blt I hg hm boot_enumerate (PyProof.Rows.callWith_type1 (thn (ha.run pos2 pins s σ H _ I h) fun us s1 ⟨vs, H1, I1, r1, q1⟩ => ?_) hs hpl))
  obtain ⟨a, xs, ex, hqx, h1000, q⟩ := q1
  subst ex
  cases r1 with
  | cons r rr =>
    cases rr
    cases r
    obtain ⟨its, rv, p', hz⟩ := I1.tuple hqx
    have hal : a < s1.heap.objs.size := by obtain ⟨o, ho, _⟩ := p'; exact Heap.lt_size ho
    refine call_enumerate_tup (tup_is p') fun h' he hit hsz hk => args_nil ?_
    have I2 : Inv X pins σ H1 { s1 with heap := h' } := I1.kept (t' := s1.toks) hk
    refine list_of_enum (s := { s1 with heap := h' }) I2 hc (Nat.ne_of_lt hal) (Nat.succ_ne_self _) (Nat.ne_of_gt (Nat.lt_succ_of_lt hal)) h1000 he hit (fun b hb => ?_) hqx q
    have e' : b = s1.heap.objs.size + 1 ∨ b = s1.heap.objs.size := by simpa using hb
    have hle : s1.heap.objs.size ≤ b := by
      rcases e' with z | z
      · rw [z]; exact Nat.le_add_right _ _
      · rw [z]; exact Nat.le_refl _
    exact I1.fpOk hle (I1.hok.fresh hle)
/-- [.. for i, x in enumerate(t)], a tuple -/
theorem lc_enumT {K : PySem.W.Frag} {a : Addr} {xs : List V} {g : TG} {tt : TT} {te : TE} {vs : List Nat} {σ : L2.St} {H1 : Hp} {D : Addr} {Qd : Hp → Prop} (Pv : Nat → Hp → Prop) (h0 : Pv 0 (upd H1 D (.lst []))) (hl : ∀ i H, i ≤ xs.length → Pv i H → SqT K H a xs)
    (hs : ∀ (i : Nat) x (T : Addr) H, xs[i]? = some x → Pv i H → H T = none → g (.ref T) (wipe σ vs) (upd H T (.tup [.int i, x])) fun σ2 H2 => wipe σ2 vs = wipe σ vs ∧ tt σ2 H2 fun b H3 =>
      if b = true then te σ2 H3 fun y H4 => ∃ acc, H4 D = some (.lst acc) ∧ acc.length < sizeLine ∧ Pv (i + 1) (upd H4 D (.lst (acc ++ [y]))) else Pv (i + 1) H3) (hd : ∀ H, Pv xs.length H → Qd H) :
    ∃ W : Nat → Nat → Hp → Prop, (∃ m, W 0 m (upd H1 D (.lst []))) ∧ ∀ i m H, W i m H →
      ((IteT K a).stop i H ∧ Qd H) ∨ ((IteT K a).go i H ∧ ∃ Nx : Hp → Prop, (∀ H', Nx H' → ∃ m', m' < m ∧ W (i + 1) m' H') ∧ ∀ x H', (IteT K a).yld i H x H' → g x (wipe σ vs) H' fun σ2 H2 => wipe σ2 vs = wipe σ vs ∧ tt σ2 H2 fun b H3 =>
        if b = true then te σ2 H3 fun y H4 => ∃ acc, H4 D = some (.lst acc) ∧ acc.length < sizeLine ∧ Nx (upd H4 D (.lst (acc ++ [y]))) else Nx H3) := by
  refine lc_it (I := IteT K a) (n := xs.length) Pv h0 (fun i H hi p => ⟨xs, xs[i], hl i H (Nat.le_of_lt hi) p, List.getElem?_eq_getElem hi⟩) (fun H p => ⟨xs, hl _ H (Nat.le_refl _) p, rfl⟩) ?_ hd
  rintro i x H H' hi p ⟨T, z, rfl, hT, rfl, hz⟩
  exact hs i z T H (hz xs (hl i H (Nat.le_of_lt hi) p)) p hT
end Toy
/-! ### tuple(enumerate(t)), t a tuple (wants enumt.inc, etl.inc) -/
namespace Toy
open PySem PySem.Spec PyProof.Rows L2
open Sem (wp)
theorem collect_enum {X : Cx} {pins : List (Addr × Obj)} {σ : L2.St} {H : Hp} {s : Shared} (I : Inv X pins σ H s) {A : Around} {E : Value → Shared → Prop} (hh : A.handled = none) {e it a : Addr} (hai : a ≠ it) (hei : e ≠ it) (hea : e ≠ a) {xs : List V} (h1000 : xs.length ≤ 1000)
    (he : IsEnum s.heap e it ((0 : Nat) : Int) .none) (hit : s.heap.IsTupleIter it a 0)
    (hf : ∀ b ∈ [e, it], FpOk X pins H b) (hq1 : SqT X.K H a xs) {Q : List Value → Shared → Prop}
    (q : ∀ s' H' ts vs, Inv X pins σ H' s' → Same H H' → ts.length = xs.length → IxAt H' ts xs → Vals (ts.map V.ref) vs → Q vs s') :
    wpAny (model X.prog X.w) A (collect (.ref e)) Q E s := by
  have ne : s.heap.objs.size ≠ e := Nat.ne_of_gt (Heap.lt_size he)
  have nit : s.heap.objs.size ≠ it := let ⟨_, e, _⟩ := hit; Nat.ne_of_gt (Heap.lt_size e)
  have hfr : H s.heap.objs.size = none := I.hok.fresh (Nat.le_refl _)
  unfold collect
  refine wpAny_bind (wpAny_runValue (codeAny_builtin F.entry_proto_collect ?_))
  rw [Around.under_plainId F.plain_proto_collect _]
  show wpAny _ A.in1 (newList [] >>= fun l' => again (.builtin "list.__iadd__" ⟨[l', .ref e], []⟩)) _ _ s
  refine wpAny_bind (wpAny_newObj_type ?_)
  refine wpAny_pure ⟨plainId_quiet F.plain_list_iadd _, codeAny_builtin F.entry_list_iadd ?_⟩
  rw [Around.under_plainId F.plain_list_iadd _]
  have hS₁ : (s.heap.push { cls := .type "list", data := .seq ([] : List Value).toArray }).get? s.heap.objs.size = some { cls := .type "list", data := .seq ([] : List Value).toArray } := Heap.get?_push_size _ rfl
  have oth : ∀ b o, s.heap.get? b = some o → (s.heap.push { cls := .type "list", data := .seq ([] : List Value).toArray }).get? b = some o := fun b o e => Heap.get?_push_of_some _ e
  have hT : ({ s with heap := s.heap.push { cls := .type "list", data := .seq ([] : List Value).toArray } } : Shared).TypeIs (.ref e) "enumerate" := ⟨_, oth _ _ he, rfl⟩
  have h1 : Builtin.List.listSameRef (.ref s.heap.objs.size) (.ref e) = false := by simp [Builtin.List.listSameRef, ne]
  show wpAny _ A.in1 (Builtin.List.listExtendWith (.ref s.heap.objs.size) (.ref e) (.ref s.heap.objs.size)) _ _ _
  unfold Builtin.List.listExtendWith
  refine wpAny_bind (wpAny_typeOf hT ?_)
  rw [if_neg (by rw [h1]; decide)]
  refine wpAny_bind (wpAny_pyIter_enum (s := { s with heap := s.heap.push { cls := .type "list", data := .seq ([] : List Value).toArray } }) (oth _ _ he) ?_)
  refine wpAny_bind (wpAny_holding ?_)
  unfold Builtin.List.listLengthHint
  refine wpAny_bind (wpAny_specialOf hT enum_no_len' ?_)
  show wpAny _ A.in1 (specialOf (Value.ref e) (Str.ofString "__length_hint__") >>= _) _ _ _
  refine wpAny_bind (wpAny_specialOf hT enum_no_hint' ?_)
  refine wpAny_pure ?_
  show wpAny _ A.in1 (rule "list.extend.makes-room" >>= fun _ => Builtin.List.listTouch (.ref s.heap.objs.size) >>= fun _ =>
    again (.builtin "list.extend.loop" ⟨[.ref s.heap.objs.size, .ref e, .ref s.heap.objs.size], []⟩)) _ _ _
  refine wpAny_bind (wpAny_rule ?_)
  refine wpAny_bind ?_
  show wpAny _ A.in1 (updateSeq s.heap.objs.size (·.push .none) >>= fun _ => updateSeq s.heap.objs.size (·.pop)) _ _ _
  refine wpAny_bind (wpAny_updateSeq hS₁ rfl ?_)
  have hS₃ := Heap.get?_update_self (Obj.mapSeq (·.push Value.none)) hS₁ rfl
  refine wpAny_updateSeq (hz := by seq_fits) hS₃ rfl ?_
  have hS₄ := Heap.get?_update_self (Obj.mapSeq (·.pop)) hS₃ rfl
  have oth2 : ∀ b o, b ≠ s.heap.objs.size → s.heap.get? b = some o → (((s.heap.push { cls := .type "list", data := .seq ([] : List Value).toArray }).update s.heap.objs.size (Obj.mapSeq (·.push Value.none))).update s.heap.objs.size (Obj.mapSeq (·.pop))).get? b = some o :=
    fun b o hb e => (Heap.get?_update_other _ _ (Ne.symm hb)).trans ((Heap.get?_update_other _ _ (Ne.symm hb)).trans (oth b o e))
  have new : ObjOk X.prog X.w (upd H s.heap.objs.size (.lst [])) (((s.heap.push { cls := .type "list", data := .seq ([] : List Value).toArray }).update s.heap.objs.size (Obj.mapSeq (·.push Value.none))).update s.heap.objs.size (Obj.mapSeq (·.pop))) s.heap.objs.size (.lst []) :=
    ⟨Nat.zero_le _, [], _, .nil, hS₄⟩
  have I1 : Inv X pins σ (upd H s.heap.objs.size (.lst [])) { s with heap := ((s.heap.push { cls := .type "list", data := .seq ([] : List Value).toArray }).update s.heap.objs.size (Obj.mapSeq (·.push Value.none))).update s.heap.objs.size (Obj.mapSeq (·.pop)) } :=
    I.laid (t' := s.toks) (fun b u e => oth2 b u (Nat.ne_of_lt (Heap.lt_size e)) e) (Nat.le_refl _) new
  have S1 := same_new hfr (.lst [])
  have hA : A.in1.in1.handled = none := hh
  refine wpAny_pure ⟨plainId_quiet F.plain_extend_loop _, ext_enum (A := A) hA hai hei hea h1000 ⟨ne, nit⟩ (.ref s.heap.objs.size) (upd H s.heap.objs.size (.lst [])) (fun H' B' => ?_) (xs.length - 0) 0 _ _ [] rfl (Nat.zero_le _) I1 (fun b hb => ?_) ?_ But.refl upd_same rfl (fun j t x hj => by simp at hj) fun s' H' ts' I' B' hS' hl' hp' => ?_⟩
  · exact same_tup (but_same hfr S1 B') hq1
  · have h0 := hf b hb
    refine ⟨?_, h0.2⟩
    have nb2 : b ≠ s.heap.objs.size := by
      simp only [List.mem_cons, List.not_mem_nil, or_false] at hb
      rcases hb with rfl | rfl
      · exact Ne.symm ne
      · exact Ne.symm nit
    rw [upd_ne nb2]
    exact h0.1
  · exact ⟨hit.at fun o q => oth2 _ o (Ne.symm nit) q, .inl ⟨.none, oth2 _ _ (Ne.symm ne) he⟩⟩
  · obtain ⟨hz1, its3, n3, rv3, hl3, hS3⟩ := I'.lstM hS'
    show wpAny _ A (load s.heap.objs.size >>= _) _ _ s'
    refine wpAny_bind (wpAny_load hS3 ?_)
    refine wpAny_pure ?_
    exact q s' H' ts' _ I' (but_same hfr S1 B') hl' hp' (by simpa using rv3)
theorem code_tuple_new_enum {X : Cx} {pins : List (Addr × Obj)} {σ : L2.St} {H : Hp} {s : Shared} (I : Inv X pins σ H s) {A : Around} {E : Value → Shared → Prop} (hh : A.handled = none) {e it a : Addr} (hai : a ≠ it) (hei : e ≠ it) (hea : e ≠ a) {xs : List V} (h1000 : xs.length ≤ 1000)
    (he : IsEnum s.heap e it ((0 : Nat) : Int) .none) (hit : s.heap.IsTupleIter it a 0)
    (hf : ∀ b ∈ [e, it], FpOk X pins H b) (hq1 : SqT X.K H a xs) {Q₁ : Value → Shared → Prop}
    (h : ∀ s' T ts H2, Inv X pins σ H2 s' → s'.TypeIs (.ref T) "tuple" → Same H H2 → H T = none → H2 T = some (.tup (ts.map V.ref)) → ts.length = xs.length → IxAt H2 ts xs → Q₁ (.ref T) s') :
    codeAny (model X.prog X.w) A (.call (.builtin "tuple.__new__") ⟨[.type "tuple", .ref e], []⟩) (wants Q₁ E) s := by
  refine codeAny_of_tree ?_
  show wpAny _ A.in1 (do checkBuiltinCall "tuple.__new__" ⟨[.type "tuple", .ref e], []⟩; again (.builtin "tuple.__new__" ⟨[.type "tuple", .ref e], []⟩)) _ _ s
  refine wpAny_bind (wpAny_of_eq (F.newCall_tuple_1 _) (wpAny_pure ⟨plainId_quiet F.plain_tuple_new _, codeAny_builtin F.entry_tuple_new ?_⟩))
  rw [Around.under_plainId F.plain_tuple_new _]
  have hsub := sub_tuple_self
  have hinit := init_tuple_lookup
  have hmh := madeHere_tuple
  have hTI : s.TypeIs (.ref e) "enumerate" := ⟨_, he, rfl⟩
  have hh1 : A.in1.handled = none := hh
  wp_walk using wpAny_typeOf hTI, collect_enum I (A := A.in1) hh1 hai hei hea h1000 he hit hf hq1
  intro s' H' ts vs I' S' hl' hp' rv'
  have hvl : vs.length = xs.length := by rw [← rv'.length, List.length_map, hl']
  have hsl : vs.length ≤ sizeLine := by rw [hvl]; exact Nat.le_trans h1000 (small (Nat.le_refl _))
  show wpAny _ _ (Builtin.Tuple.tupleExact vs.toArray >>= fun v => ret v) _ _ _
  unfold Builtin.Tuple.tupleExact
  refine wpAny_bind (wpAny_newObj_type ?_ (by show vs.toArray.size ≤ sizeLine; simpa using hsl))
  refine wpAny_pure ?_
  have hfr' : H' s'.heap.objs.size = none := I'.hok.fresh (Nat.le_refl _)
  have gT : (s'.heap.push { cls := .type "tuple", data := .seq vs.toArray }).get? s'.heap.objs.size = some { cls := .type "tuple", data := .seq vs.toArray } := Heap.get?_push_size _ rfl
  have new : ObjOk X.prog X.w (upd H' s'.heap.objs.size (.tup (ts.map V.ref))) (s'.heap.push { cls := .type "tuple", data := .seq vs.toArray }) s'.heap.objs.size (.tup (ts.map V.ref)) :=
    ⟨by rw [List.length_map, hl', ← hvl]; exact hsl, vs, rv', ⟨_, gT, rfl, _, rfl⟩⟩
  have I2 : Inv X pins σ (upd H' s'.heap.objs.size (.tup (ts.map V.ref))) { s' with heap := s'.heap.push { cls := .type "tuple", data := .seq vs.toArray } } :=
    I'.laid (t' := s'.toks) (fun b u e => Heap.get?_push_of_some _ e) (Nat.le_refl _) new
  have hfr0 : H s'.heap.objs.size = none := by
    cases hc : H s'.heap.objs.size with
    | none => rfl
    | some o => exact absurd (S' _ o hc) (by rw [hfr']; intro w; cases w)
  refine h _ _ ts _ I2 ⟨_, gT, rfl⟩ ?_ hfr0 upd_same hl' ?_
  · exact S'.trans (same_new hfr' _)
  · exact fun j t x hj hx => by
      have h5 := hp' j t x hj hx
      rw [upd_ne (ne_of_none h5 hfr')]
      exact h5
theorem call_tuple_enum {X : Cx} {pins : List (Addr × Obj)} {σ : L2.St} {H : Hp} {s : Shared} (I : Inv X pins σ H s) (hcalm : X.calm = true) {e it a : Addr} (hai : a ≠ it) (hei : e ≠ it) (hea : e ≠ a) {xs : List V} (h1000 : xs.length ≤ 1000)
    (he : IsEnum s.heap e it ((0 : Nat) : Int) .none) (hit : s.heap.IsTupleIter it a 0)
    (hf : ∀ b ∈ [e, it], FpOk X pins H b) (hq1 : SqT X.K H a xs) {Q : VK}
    (q : ∀ T ts H2, Same H H2 → H T = none → H2 T = some (.tup (ts.map V.ref)) → ts.length = xs.length → IxAt H2 ts xs → Q (.ref T) H2) :
    wpAny (model X.prog X.w) X.A (call (.type "tuple") [.ref e]) (EP X pins σ Q) X.xe s := by
  have hh : X.A.in1.handled = none := show X.A.handled = none from I.ok.hd hcalm
  refine callType_codes (Q₁ := fun obj s₁ => s₁.TypeIs obj "tuple" ∧ EP X pins σ Q obj s₁) F.called_tuple (F.typeCall_tuple_1 _) F.entry_object_init
    (code_tuple_new_enum I (A := X.A.in1) hh hai hei hea h1000 he hit hf hq1 fun s' T ts H2 I' hty S' hn hT' hl' hp' => ⟨hty, .ref T, H2, I', rfl, q T ts H2 S' hn hT' hl' hp'⟩) fun obj s₁ h₁ => ?_
  exact ⟨h₁.1, F.args_object_init_2 obj _, object_init_meets F.called_tuple.init.lookup F.called_tuple.made (by decide) X.prog X.w X.A.in1 _ s₁ ⟨h₁.1, rfl, h₁.2⟩⟩
def tTupEnT (K : PySem.W.Frag) (ta : TA) : TE := fun σ H Q => ta σ H fun vs H1 => ∃ a xs, vs = [.ref a] ∧ SqT K H1 a xs ∧ xs.length ≤ 1000 ∧
  ∀ T ts H2, Same H1 H2 → H1 T = none → H2 T = some (.tup (ts.map V.ref)) → ts.length = xs.length → IxAt H2 ts xs → Q (.ref T) H2
theorem pe_tupEnT {X : Cx} {e : Expr} {ta : TA} {p p2 pos pos2 : Pos} (hc : X.calm = true) (hg0 : Gl X "tuple") (hm0 : X.mg "tuple" = none) (hg : Gl X "enumerate") (hm : X.mg "enumerate" = none) (ha : PA X [e] ta)
    (hs : starEach [e] X.env = (false, eval e X.env) :: starEach [] X.env := by rfl) (hpl : (backTo pos2 (starEach [] X.env)).any (·.1) = false := by rfl)
    (na : starEach [.Call (.Name "enumerate" p2) [e] [] pos2] X.env = (false, eval (.Call (.Name "enumerate" p2) [e] [] pos2) X.env) :: starEach [] X.env := by rfl) :
    PE X (.Call (.Name "tuple" p) [.Call (.Name "enumerate" p2) [e] [] pos2] [] pos) (tTupEnT X.K ta) := by
  refine ⟨fun pins s σ H Q I h => ?_⟩
  refine Call_ (ld_blt I hg0 hm0 boot_tuple (PyProof.Rows.callWith_type1 (args_cons ?_ na) na))
  refine Call_ (ld_blt I hg hm boot_enumerate (PyProof.Rows.callWith_type1 (thn (ha.run pos2 pins s σ H _ I h) fun us s1 ⟨vs, H1, I1, r1, q1⟩ => ?_) hs hpl))
  obtain ⟨a, xs, ex, hqx, h1000, q⟩ := q1
  subst ex
  cases r1 with
  | cons r rr =>
    cases rr
    cases r
    obtain ⟨its, rv, p', hz⟩ := I1.tuple hqx
    have hal : a < s1.heap.objs.size := by obtain ⟨o, ho, _⟩ := p'; exact Heap.lt_size ho
    refine call_enumerate_tup (tup_is p') fun h' he hit hsz hk => args_nil ?_
    have I2 : Inv X pins σ H1 { s1 with heap := h' } := I1.kept (t' := s1.toks) hk
    refine call_tuple_enum (s := { s1 with heap := h' }) I2 hc (Nat.ne_of_lt hal) (Nat.succ_ne_self _) (Nat.ne_of_gt (Nat.lt_succ_of_lt hal)) h1000 he hit (fun b hb => ?_) hqx q
    have e' : b = s1.heap.objs.size + 1 ∨ b = s1.heap.objs.size := by simpa using hb
    have hle : s1.heap.objs.size ≤ b := by
      rcases e' with z | z
      · rw [z]; exact Nat.le_add_right _ _
      · rw [z]; exact Nat.le_refl _
    exact I1.fpOk hle (I1.hok.fresh hle)
end Toy
/-! ### xs[::-1] of a list -/
namespace Toy
open PySem PySem.Spec PyProof.Rows L2
def tRevL (K : PySem.W.Frag) (te : TE) : TE := fun σ H Q => te σ H fun x H1 => ∃ a xs, x = .ref a ∧ SqL K H1 a xs ∧ ∀ p, H1 p = none → Q (.ref p) (upd H1 p (.lst xs.reverse))
theorem pickR {its : List Value} : slicePick its.toArray none none (some (-1)) = its.reverse.toArray := by
  unfold slicePick
  congr 1
  have e : sliceBounds none none (some (-1)) its.toArray.size = ((its.length : Int) - 1, -1, -1) := by
    simp only [sliceBounds, Option.getD_some, List.size_toArray]
    rfl
  rw [e]
  dsimp only
  unfold sliceRange
  have h1 : ¬ ((-1 : Int) > 0) := by decide
  simp only [h1, if_false]
  have hc : (if (its.length : Int) - 1 > -1 then ((its.length : Int) - 1 - -1 - -1 - 1) / (- -1) else 0).toNat = its.length := by
    split
    · rw [show (- -1 : Int) = 1 by decide, Int.ediv_one]; omega
    · omega
  rw [hc, List.filterMap_map]
  apply List.ext_getElem?
  intro i
  have key : ∀ n, n ≤ its.length → (List.range n).filterMap ((fun j => its.toArray[j]?) ∘ fun k : Nat => ((its.length : Int) - 1 + -1 * (k : Int)).toNat) = its.reverse.take n := by
    intro n
    induction n with
    | zero => intro _; rfl
    | succ n ih =>
      intro h
      have hn : n < its.reverse.length := by rw [List.length_reverse]; omega
      rw [List.range_succ, List.filterMap_append, ih (by omega), List.take_succ, List.getElem?_eq_getElem hn]
      congr 1
      rw [List.filterMap_cons, List.filterMap_nil]
      have e2 : ((fun j => its.toArray[j]?) ∘ fun k : Nat => ((its.length : Int) - 1 + -1 * (k : Int)).toNat) n = some its.reverse[n] := by
        show its.toArray[((its.length : Int) - 1 + -1 * (n : Int)).toNat]? = _
        rw [show ((its.length : Int) - 1 + -1 * (n : Int)).toNat = its.length - 1 - n by omega, List.getElem_reverse, List.getElem?_toArray, List.getElem?_eq_getElem (by omega)]
      rw [e2] <;> rfl
  have k2 := key its.length (Nat.le_refl _)
  rw [List.take_of_length_le (by rw [List.length_reverse]; exact Nat.le_refl _)] at k2
  exact congrArg (fun l => l[i]?) k2
theorem pe_revL {X : Cx} {e : Expr} {te : TE} {k : Nat} {p1 p2 p3 pos : Pos} (he : PE X e te) : PE X (.Subscript e (.Slice none none (some (.UnaryOp .USub (.Constant (.int 1) k p1) p2)) p3) pos) (tRevL X.K te) := by
  refine ⟨fun pins s σ H Q I h => ?_⟩
  refine Subscript_ (thn (he.run pins s σ H _ I h) fun v s1 ⟨x, H1, I1, r1, q1⟩ => ?_)
  obtain ⟨a, xs, ex, hx, q⟩ := q1
  subst ex
  cases r1
  have hst : PO X (some (.UnaryOp .USub (.Constant (.int 1) k p1) p2)) (tPart _) := po_some (pe_un un_neg pe_int)
  refine wpAny_Slice (thn (po_none.run pins s1 σ H1 (fun o H2 => o = none ∧ H2 = H1) I1 ⟨rfl, rfl⟩) fun vl s2 ⟨l, H2, I2, pl, el, e2⟩ => ?_)
  subst el e2
  refine thn (po_none.run pins s2 σ H2 (fun o H3 => o = none ∧ H3 = H2) I2 ⟨rfl, rfl⟩) fun vu s3 ⟨u, H3, I3, pu, eu, e3⟩ => ?_
  subst eu e3
  refine thn (hst.run pins s3 σ H3 (fun o H4 => o = some (-1) ∧ H4 = H3) I3 ?_) fun vs s4 ⟨o, H4, I4, ps, eo, e4⟩ => ?_
  · exact ⟨_, rfl, _, rfl, rfl, rfl⟩
  subst eo e4
  have I5 : Inv X pins σ H4 { s4 with heap := s4.heap.push { cls := .type "slice", data := .fields #[vl, vu, vs] } } := I4.kept (t' := s4.toks) fun b ob q => Heap.get?_push_of_some _ q
  obtain ⟨its, r, ht, hz⟩ := I5.list hx
  have hlen := r.length
  show wpAny (model X.prog X.w) X.A (subscriptTail e (.Slice none none (some (.UnaryOp .USub (.Constant (.int 1) k p1) p2)) p3) (.ref a) (.ref s4.heap.objs.size)) (EP X pins σ Q) X.xe { s4 with heap := s4.heap.push { cls := .type "slice", data := .fields #[vl, vu, vs] } }
  refine tail_any (ops := [.ref a, .ref s4.heap.objs.size]) ht.isList.typeIs (PySem.slot_list_getitem.lookup) ?_ (by with_unfolding_all rfl)
  refine wpAny_getItem_list_slice ht.isList (Heap.IsSliceOf.new _ vl vu vs) pl pu ps (by decide) ?_ (by rw [List.size_toArray]; omega)
  rw [pickR]
  refine ⟨.ref _, _, I5.laid (t' := s4.toks) (o := .lst xs.reverse) (fun b ob q => Heap.get?_push_of_some _ q) (Nat.le_refl _) ?_, rfl, q _ (I5.hok.fresh (Nat.le_refl _))⟩
  exact ⟨by rw [List.length_reverse]; exact hz, _, 0, Vals.reverse r, Heap.get?_push_size _ rfl⟩
end Toy
namespace Toy
open PySem PySem.Spec PyProof.Rows L2
end Toy
/-! ### tuples: t + u and t[a:b] of any kind -/
namespace Toy
open PySem PySem.Spec PyProof.Rows L2
def rCatU : R2 := fun x y H Q => ∃ a b xs ys, x = .ref a ∧ y = .ref b ∧ H a = some (.tup xs) ∧ H b = some (.tup ys) ∧ xs.length + ys.length ≤ sizeLine ∧ ∀ p H', Same H H' → H' p = some (.tup (xs ++ ys)) → Q (.ref p) H'
theorem op_catU {X : Cx} : OpR X (binaryOp .Add) rCatU := by
  intro pins s σ H x y v u Q I rx ry h
  obtain ⟨a, b, xs, ys, rfl, rfl, ha, hb, hz, q⟩ := h
  refine op_catA pins s σ H _ _ v u Q I rx ry ⟨a, b, xs, ys, rfl, rfl, SqT.of ha, SqT.of hb, hz, fun e => ?_, fun _ e => ?_, fun _ _ p hp => q p _ (same_new hp _) upd_same⟩
  · subst e
    exact q b H (fun _ _ z => z) (by rw [hb, List.nil_append])
  · subst e
    exact q a H (fun _ _ z => z) (by rw [ha, List.append_nil])
def rSlU : V → Option Int → Option Int → Hp → VK → Prop := fun x lo hi H Q => ∃ a xs, x = .ref a ∧ H a = some (.tup xs) ∧ ∀ p H', Same H H' → H' p = some (.tup (cutV xs lo hi)) → Q (.ref p) H'
theorem sl_tupU {X : Cx} : SlR X rSlU := by
  intro pins s σ H x v vl vu lo hi sl Q I rx hs pl pu h
  obtain ⟨a, xs, rfl, ha, q⟩ := h
  refine sl_tupA pins s σ H _ v vl vu lo hi sl Q I rx hs pl pu ⟨a, xs, rfl, SqT.of ha, fun e => ?_, fun _ p hp => q p _ (same_new hp _) upd_same⟩
  refine q a H (fun _ _ z => z) ?_
  rw [ha]
  have : cutV xs lo hi = xs := by
    unfold cutV
    rw [e.1, e.2, List.drop_zero, Nat.sub_zero, List.take_length]
  rw [this]
end Toy
/-! ### data that is compared: no truths in it -/
namespace Toy
open PySem PySem.Spec PyProof.Rows L2
mutual
def nb : PyData → Bool
  | .none => true
  | .bool _ => false
  | .int _ => true
  | .str _ => true
  | .list ds => nbs ds
  | .tuple ds => nbs ds
  | .dict _ => false
def nbs : List PyData → Bool
  | [] => true
  | d :: ds => nb d && nbs ds
end
theorem nbs_of : ∀ {ds : List PyData}, (∀ d ∈ ds, nb d = true) → nbs ds = true
  | [], _ => by simp [nbs]
  | d :: ds, h => by simp [nbs, h d List.mem_cons_self, nbs_of (ds := ds) fun x hx => h x (List.mem_cons_of_mem _ hx)]
mutual
theorem eqv_nb : ∀ d e : PyData, nb d = true → nb e = true → PyData.eqv d e = true → d = e
  | .none, e, _, h, q => by cases e <;> simp_all [PyData.eqv, nb]
  | .int i, e, _, h, q => by cases e <;> simp_all [PyData.eqv, nb]
  | .str x, e, _, h, q => by cases e <;> simp_all [PyData.eqv, nb]
  | .bool _, _, h, _, _ => by simp [nb] at h
  | .dict _, _, h, _, _ => by simp [nb] at h
  | .list ds, e, h, g, q => by
    cases e with
    | list es =>
      rw [PyData.eqv] at q
      exact congrArg PyData.list (eqvs_nb ds es (by simpa [nb] using h) (by simpa [nb] using g) q)
    | _ => simp [PyData.eqv] at q
  | .tuple ds, e, h, g, q => by
    cases e with
    | tuple es =>
      rw [PyData.eqv] at q
      exact congrArg PyData.tuple (eqvs_nb ds es (by simpa [nb] using h) (by simpa [nb] using g) q)
    | _ => simp [PyData.eqv] at q
theorem eqvs_nb : ∀ ds es : List PyData, nbs ds = true → nbs es = true → PyData.eqvAll ds es = true → ds = es
  | [], [], _, _, _ => rfl
  | [], _ :: _, _, _, q => by simp [PyData.eqvAll] at q
  | _ :: _, [], _, _, q => by simp [PyData.eqvAll] at q
  | d :: ds, e :: es, h, g, q => by
    simp only [nbs, Bool.and_eq_true] at h g
    simp only [PyData.eqvAll, Bool.and_eq_true] at q
    rw [eqv_nb d e h.1 g.1 q.1, eqvs_nb ds es h.2 g.2 q.2]
end
structure Ly (n : Nat) (d : PyData) : Prop where
  can : d.canLay0 = true
  dep : d.depth ≤ n
  no : nb d = true
theorem Ly.non {n : Nat} : Ly n .none := ⟨by simp [PyData.canLay0], by simp [PyData.depth], by simp [nb]⟩
theorem Ly.int {n : Nat} {i : Int} : Ly n (.int i) := ⟨by simp [PyData.canLay0], by simp [PyData.depth], by simp [nb]⟩
theorem Ly.str {n : Nat} {x : Str} (h : (PyData.str x).canLay0 = true := by decide +kernel) : Ly n (.str x) := ⟨h, by simp [PyData.depth], by simp [nb]⟩
theorem Ly.mono {n m : Nat} {d : PyData} (a : Ly n d) (h : n ≤ m) : Ly m d := ⟨a.can, Nat.le_trans a.dep h, a.no⟩
theorem can_all : ∀ {ds : List PyData}, (∀ d ∈ ds, d.canLay0 = true) → PyData.canLayAll0 ds = true
  | [], _ => by simp [PyData.canLayAll0]
  | d :: ds, h => by simp [PyData.canLayAll0, h d List.mem_cons_self, can_all (ds := ds) fun x hx => h x (List.mem_cons_of_mem _ hx)]
theorem dep_all {n : Nat} : ∀ {ds : List PyData}, (∀ d ∈ ds, d.depth ≤ n) → PyData.depthAll ds ≤ n
  | [], _ => by simp [PyData.depthAll]
  | d :: ds, h => by
    have h1 := h d List.mem_cons_self
    have h2 := dep_all (ds := ds) fun x hx => h x (List.mem_cons_of_mem _ hx)
    simp only [PyData.depthAll]
    omega
theorem Ly.lst {n : Nat} {ds : List PyData} (h : ∀ d ∈ ds, Ly n d) : Ly (n + 1) (.list ds) :=
  ⟨by simp only [PyData.canLay0]; exact can_all fun d hd => (h d hd).can, by simp only [PyData.depth]; have := dep_all fun d hd => (h d hd).dep; omega, by simp only [nb]; exact nbs_of fun d hd => (h d hd).no⟩
theorem Ly.tup {n : Nat} {ds : List PyData} (h : ∀ d ∈ ds, Ly n d) : Ly (n + 1) (.tuple ds) :=
  ⟨by simp only [PyData.canLay0]; exact can_all fun d hd => (h d hd).can, by simp only [PyData.depth]; have := dep_all fun d hd => (h d hd).dep; omega, by simp only [nb]; exact nbs_of fun d hd => (h d hd).no⟩
theorem Ly.tupI {ns : List Int} : Ly 1 (.tuple (ns.map PyData.int)) := .tup fun d hd => by obtain ⟨i, _, rfl⟩ := List.mem_map.mp hd; exact .int
theorem Ly.lstI {ns : List Int} : Ly 1 (.list (ns.map PyData.int)) := .lst fun d hd => by obtain ⟨i, _, rfl⟩ := List.mem_map.mp hd; exact .int
theorem Ly.tup2 {n : Nat} {a b : PyData} (ha : Ly n a) (hb : Ly n b) : Ly (n + 1) (.tuple [a, b]) := .tup fun d hd => by
  rcases List.mem_cons.mp hd with rfl | hd
  · exact ha
  · cases List.mem_singleton.mp hd; exact hb
theorem Ly.sh {n : Nat} {d : PyData} (a : Ly n d) (h : n ≤ 64 := by decide) : SeqAt.shaped d = true := by
  show (d.canLay0 && decide (d.depth ≤ 64)) = true
  rw [a.can, decide_eq_true (Nat.le_trans a.dep h)] <;> rfl
theorem Ly.refl {n : Nat} {d : PyData} (a : Ly n d) (h : n ≤ 64 := by decide) : PyData.eqv d d = true := SeqAt.eqv_refl _ (SeqAt.canLay_of_shaped (a.sh h))
theorem Ly.eq {n m : Nat} {d e : PyData} (a : Ly n d) (b : Ly m e) (h : PyData.eqv d e = true) : d = e := eqv_nb d e a.no b.no h
theorem Ly.ne {n m : Nat} {d e : PyData} (a : Ly n d) (b : Ly m e) (h : d ≠ e) : PyData.eqv d e = false := by
  cases c : PyData.eqv d e with
  | false => rfl
  | true => exact absurd (a.eq b c) h
theorem dpAll_of {K : PySem.W.Frag} {H : Hp} : ∀ {xs : List V} {ds : List PyData}, xs.length = ds.length → (∀ (i : Nat) (x : V) (d : PyData), xs[i]? = some x → ds[i]? = some d → Dp K H x d) → DpAll K H xs ds
  | [], [], _, _ => .nil
  | [], _ :: _, h, _ => by simp at h
  | _ :: _, [], h, _ => by simp at h
  | x :: xs, d :: ds, h, q => .cons (q 0 x d rfl rfl) (dpAll_of (by simpa using h) fun i y e h1 h2 => q (i + 1) y e (by simpa using h1) (by simpa using h2))
theorem dp_tup2 {K : PySem.W.Frag} {H : Hp} {p : Addr} {x y : V} {a b : PyData} (h : SqT K H p [x, y]) (ha : Dp K H x a) (hb : Dp K H y b) : Dp K H (.ref p) (.tuple [a, b]) := .tup h (.cons ha (.cons hb .nil))
end Toy
/-! ### dicts by tuples: {t: v}, tuple(d), dict(rows) -/
namespace Toy
open PySem PySem.Spec PyProof.Rows L2
open Sem (wp)
theorem RoomG.u1 {k : Nat} {A : Around} (r : RoomG k A) : A.units + 1 < cLine := by have := r.units; omega
theorem RoomG.u2 {k : Nat} {A : Around} (r : RoomG k A) : A.units + 2 < cLine := by have := r.units; omega
/-- a dict of one row, its key a tuple -/
def tDispT (tk tv : TE) : TE := fun σ H Q => ∀ p, H p = none → tk σ (upd H p (.dT [])) fun x H1 => tv σ H1 fun y H2 => ∃ (b : Addr) (k : List Key), x = .ref b ∧ H2 p = some (.dT []) ∧ H2 b = some (.tup (k.map kV)) ∧ Q (.ref p) (upd H2 p (.dT [(k, y)]))
def dispQ (p : Addr) (Q : VK) : List (V × V) → Hp → Prop
  | [(x, y)], H2 => ∃ (b : Addr) (k : List Key), x = .ref b ∧ H2 p = some (.dT []) ∧ H2 b = some (.tup (k.map kV)) ∧ Q (.ref p) (upd H2 p (.dT [(k, y)]))
  | _, _ => False
theorem pe_dispT {X : Cx} {pos : Pos} {k v : Expr} {tk tv : TE} (hu : X.A.units + 1 < cLine) (hk : PE X k tk) (hv : PE X v tv) : PE X (.Dict [some k] [v] pos) (tDispT tk tv) := by
  refine ⟨fun pins s σ H Q I q => ?_⟩
  have hn := I.hok.fresh (Nat.le_refl s.heap.objs.size)
  have I1 := I.laid (a := s.heap.objs.size) (o := .dT []) (h' := s.heap.push { cls := .type "dict", data := .dict #[] }) (t' := s.toks) (fun _ _ q => Heap.get?_push_of_some _ q) (Nat.le_refl _) (dt_empty s.heap I.big)
  have R := (pps_cons (pos := pos) hk hv pps_nil).run pins _ σ _ (dispQ s.heap.objs.size Q) I1 (q _ hn)
  have hsh := zip_pairTrees [some k] [v] X.env pos rfl rfl
  have hlen : (pairTrees [some k] [v] X.env pos).length ≤ 15 := by rw [pairTrees_length _ _ _ _ rfl rfl]; show 1 ≤ 15; decide
  have h0 : pairTrees [some k] [v] X.env pos ≠ [] := fun e => by
    have := pairTrees_length [some k] [v] X.env pos rfl rfl
    rw [e] at this
    cases this
  rw [arm_eval_Dict, hsh, dictDisplay_pairs _ h0 (by omega)]
  refine wpAny_bind (wpAny_standAt (wpAny_bind (wpAny_subDictH (knd := tupleKind (mixKind X.prog X.w)) (Q := fun d s' => wpAny (model X.prog X.w) X.A (pure (Value.ref d)) (EP X pins σ Q) X.xe s') (show (tupleKind (mixKind X.prog X.w)).room X.A from (by show X.A.units < cLine; omega)) hlen
    (wpAny_mono R (fun vs s1 h1 => ?_) fun _ _ e => e))))
  obtain ⟨ps, H2, I2, rel, qq⟩ := h1
  match ps, rel, qq with
  | [(x, y)], rel, qq =>
    obtain ⟨b, ky, rfl, e, eb, q2⟩ := qq
    cases rel with
    | @cons p1 p2 _ _ hr tl =>
      cases tl
      obtain ⟨u, w⟩ := p2
      obtain ⟨r1, r2⟩ := hr
      cases (show u = Value.ref b from r1)
      obtain ⟨z, hd, xs, r0, dd⟩ := dt_of I2.hok e
      cases r0
      refine ⟨[(ky, b, w)], ⟨rfl, rfl, key_of I2.hok eb, trivial⟩, dd, fun h' tk dd' hs => wpAny_pure ⟨.ref s.heap.objs.size, _, ?_, rfl, q2⟩⟩
      obtain ⟨o, es, ep, hq, h2, h3, h4, _, h5⟩ := dd'
      refine d_write I2 (by rw [e]; exact True.intro) hs ⟨o, hq⟩ ⟨by show 1 ≤ sizeLine; decide, hd, [(ky, b, w)], .cons ⟨rfl, ?_, r2⟩ .nil, o, es, ep, hq, h2, h3, h4, h5⟩
      rw [upd_ne (ne_of eb e (fun z => nomatch z))]
      exact eb
/-- the keys of a dict by tuples, as a tuple -/
theorem keysDT {X : Cx} {pins : List (Addr × Obj)} {σ : L2.St} {H : Hp} {s : Shared} {d : Addr} {kvs : List (List Key × V)} (I : Inv X pins σ H s) (hd : H d = some (.dT kvs)) : kvs.length ≤ sizeLine ∧ (d == sysModules) = false ∧
    ∃ (ks : List (List Key × Addr × Value)) (o : Obj) (es : Array DictEntry) (ep : Nat), KT H kvs ks ∧ s.heap.get? d = some o ∧ o.ExactDict ∧ o.data = .dict es ep ∧ es.toList = ks.map (entryOfKey (tupleKind (mixKind X.prog X.w))) := by
  obtain ⟨z, hs, ks, pr, o, es, ep, ho, hx, hdt, he, _⟩ := (show ObjOk X.prog X.w H s.heap d (.dT kvs) from I.hok d _ hd)
  exact ⟨z, hs, ks, o, es, ep, pr, ho, hx, hdt, he⟩
theorem accDT {X : Cx} {es : Array DictEntry} {ks : List (List Key × Addr × Value)} (he : es.toList = ks.map (entryOfKey (tupleKind (mixKind X.prog X.w)))) {acc : Array Value}
    (it : ItemsOf (fun i v => ∃ en : DictEntry, es[i]? = some en ∧ v = en.key) acc es.size) : acc.toList = (ks.map fun x => x.2.1).map Value.ref := by
  have l1 : es.size = ks.length := size_of_entries he
  have hl : acc.toList.length = ks.length := by rw [Array.length_toList, it.1]; exact l1
  refine List.ext_getElem? fun j => ?_
  rw [List.map_map, List.getElem?_map]
  cases hj : acc.toList[j]? with
  | none =>
    have h1 := List.getElem?_eq_none_iff.mp hj
    rw [List.getElem?_eq_none (by omega)] <;> rfl
  | some v =>
    obtain ⟨en, hen, hv⟩ := it.2 j v (by rw [← Array.getElem?_toList]; exact hj)
    have qe := entry_at he j
    rw [hen] at qe
    cases hb : ks[j]? with
    | none =>
      rw [hb] at qe
      exact nomatch (show some en = none from qe)
    | some b =>
      rw [hb] at qe
      rw [hv, Option.some.inj qe] <;> rfl
theorem code_tup_dT {X : Cx} {pins : List (Addr × Obj)} {σ : L2.St} {H : Hp} {s : Shared} (I : Inv X pins σ H s) {A : Around} {E : Value → Shared → Prop} (hh : A.handled = none) {d : Addr} {kvs : List (List Key × V)} (hd : H d = some (.dT kvs)) {Q₁ : Value → Shared → Prop}
    (q : ∀ s' T bs, Inv X pins σ (upd H T (.tup (bs.map V.ref))) s' → s'.TypeIs (.ref T) "tuple" → H T = none → IsKeys H kvs bs → Q₁ (.ref T) s') :
    codeAny (model X.prog X.w) A (.call (.builtin "tuple.__new__") ⟨[.type "tuple", .ref d], []⟩) (wants Q₁ E) s := by
  obtain ⟨z, hs, ks, o, es, ep, pr, ho, hx, hdt, he⟩ := keysDT I hd
  have l2 : kvs.length = ks.length := Paired.length pr
  have l1 : es.size = ks.length := size_of_entries he
  have hes : es.size ≤ sizeLine := by omega
  refine codeAny_of_tree ?_
  show wpAny _ A.in1 (do checkBuiltinCall "tuple.__new__" ⟨[.type "tuple", .ref d], []⟩; again (.builtin "tuple.__new__" ⟨[.type "tuple", .ref d], []⟩)) _ _ s
  refine wpAny_bind (wpAny_of_eq (F.newCall_tuple_1 _) (wpAny_pure ⟨plainId_quiet F.plain_tuple_new _, codeAny_builtin F.entry_tuple_new ?_⟩))
  rw [Around.under_plainId F.plain_tuple_new _]
  have hsub := sub_tuple_self
  have hinit := init_tuple_lookup
  have hmh := madeHere_tuple
  have hTI : s.TypeIs (.ref d) "dict" := ⟨o, ho, hx.1⟩
  have hh1 : A.in1.handled = none := hh
  wp_walk using wpAny_typeOf hTI, PySem.W.kdu_collect (A := A.in1) (kdl_raw hs hx hdt) hh1 ho hes
  intro h' tk acc kp it
  have ea := accDT he it
  have hsl : acc.toList.length ≤ sizeLine := by rw [ea, List.length_map, List.length_map]; omega
  show wpAny _ _ (Builtin.Tuple.tupleExact acc.toList.toArray >>= fun v => ret v) _ _ _
  unfold Builtin.Tuple.tupleExact
  refine wpAny_bind (wpAny_newObj_type ?_ (by show acc.toList.toArray.size ≤ sizeLine; simpa using hsl))
  refine wpAny_pure ?_
  have I' : Inv X pins σ H { s with heap := h', toks := tk } := I.kept (t' := tk) kp
  have hfr' : H h'.objs.size = none := I'.hok.fresh (Nat.le_refl _)
  have gT : (h'.push { cls := .type "tuple", data := .seq acc.toList.toArray }).get? h'.objs.size = some { cls := .type "tuple", data := .seq acc.toList.toArray } := Heap.get?_push_size _ rfl
  have rv : Vals ((ks.map fun x => x.2.1).map V.ref) acc.toList := by rw [ea]; exact vals_refs _
  have I2 : Inv X pins σ (upd H h'.objs.size (.tup ((ks.map fun x => x.2.1).map V.ref))) { s with heap := h'.push { cls := .type "tuple", data := .seq acc.toList.toArray }, toks := tk } :=
    I'.laid (t' := tk) (fun b u e => Heap.get?_push_of_some _ e) (Nat.le_refl _) ⟨by rw [rv.length]; exact hsl, acc.toList, rv, ⟨_, gT, rfl, _, rfl⟩⟩
  exact q _ _ _ I2 ⟨_, gT, rfl⟩ hfr' (isKeys_of pr)
def rTupDT : List V → Hp → VK → Prop := fun xs H Q => ∃ d kvs, xs = [V.ref d] ∧ H d = some (.dT kvs) ∧ ∀ T bs, H T = none → IsKeys H kvs bs → Q (.ref T) (upd H T (.tup (bs.map V.ref)))
theorem call_tup_dT {X : Cx} (hcalm : X.calm = true) : CallR X (.type "tuple") rTupDT := by
  intro pins s σ H xs us Q I r h
  obtain ⟨d, kvs, rfl, hd, q⟩ := h
  obtain ⟨u, rfl, rx⟩ := r.one
  cases rx
  have hh : X.A.in1.handled = none := show X.A.handled = none from I.ok.hd hcalm
  refine callType_codes (Q₁ := fun obj s₁ => s₁.TypeIs obj "tuple" ∧ EP X pins σ Q obj s₁) F.called_tuple (F.typeCall_tuple_1 _) F.entry_object_init
    (code_tup_dT I (A := X.A.in1) hh hd fun s' T bs I' hty hn hk => ⟨hty, .ref T, _, I', rfl, q T bs hn hk⟩) fun obj s₁ h₁ => ?_
  exact ⟨h₁.1, F.args_object_init_2 obj _, object_init_meets F.called_tuple.init.lookup F.called_tuple.made (by decide) X.prog X.w X.A.in1 _ s₁ ⟨h₁.1, rfl, h₁.2⟩⟩
/-- rows of a key tuple and a value -/
def RowsDT (H : Hp) (ps : List Addr) (rows : List (List Key × Addr × V)) : Prop := ps.length = rows.length ∧ ∀ (j : Nat) (p : Addr) (q : List Key × Addr × V), ps[j]? = some p → rows[j]? = some q → H p = some (.tup [.ref q.2.1, q.2.2]) ∧ H q.2.1 = some (.tup (q.1.map kV))
def putsK (acc : List (List Key × V)) (rows : List (List Key × Addr × V)) : List (List Key × V) := rows.foldl (fun acc q => putK acc q.1 q.2.2) acc
theorem putsK_len : ∀ (rows : List (List Key × Addr × V)) (acc : List (List Key × V)), (putsK acc rows).length ≤ acc.length + rows.length
  | [], acc => by show acc.length ≤ acc.length + 0; omega
  | q :: rows, acc => by
    have h1 := putsK_len rows (putK acc q.1 q.2.2)
    have h2 := length_putK acc q.1 q.2.2
    show (putsK (putK acc q.1 q.2.2) rows).length ≤ _
    rw [List.length_cons]
    omega
abbrev RV : List (List Key × Addr × V) → List (List Key × Addr × Value) → Prop := Paired fun q p => p.1 = q.1 ∧ p.2.1 = q.2.1 ∧ RelV q.2.2 p.2.2
theorem rows_vals {X : Cx} {pins : List (Addr × Obj)} {σ : L2.St} {H : Hp} {s : Shared} (I : Inv X pins σ H s) : ∀ {ps : List Addr} {rows : List (List Key × Addr × V)}, RowsDT H ps rows →
    ∃ prs : List (List Key × Addr × Value), RV rows prs ∧ ∀ (j : Nat) (q : List Key × Addr × Value), prs[j]? = some q → ∃ b : Addr, ps[j]? = some b ∧ IsTup s.heap b #[.ref q.2.1, q.2.2]
  | [], [], _ => ⟨[], .nil, fun j q h => by simp at h⟩
  | [], _ :: _, h => by simp [RowsDT] at h
  | _ :: _, [], h => by simp [RowsDT] at h
  | p :: ps, q :: rows, h => by
    obtain ⟨prs, r, hp⟩ := rows_vals I (ps := ps) (rows := rows) ⟨by simpa using h.1, fun j a b e1 e2 => h.2 (j + 1) a b (by simpa using e1) (by simpa using e2)⟩
    obtain ⟨h1, _⟩ := h.2 0 p q rfl rfl
    obtain ⟨its, rv, ht, _⟩ := I.tuple (SqT.of (K := X.K) h1)
    obtain ⟨u, y, ei, ru, ry⟩ := vals2 rv
    subst ei
    cases (show u = Value.ref q.2.1 from ru)
    refine ⟨(q.1, q.2.1, y) :: prs, .cons ⟨rfl, rfl, ry⟩ r, fun j z e => ?_⟩
    cases j with
    | zero => cases (Option.some.inj e); exact ⟨p, rfl, ht⟩
    | succ j => exact hp j z (by simpa using e)
theorem kt_puts {H : Hp} {rows : List (List Key × Addr × V)} {prs : List (List Key × Addr × Value)} {acc : List (List Key × V)} {xs : List (List Key × Addr × Value)} (r : RV rows prs) (hk : ∀ q ∈ rows, H q.2.1 = some (.tup (q.1.map kV))) (k : KT H acc xs) : KT H (putsK acc rows) (storedAllH xs prs) := by
  unfold RV at r
  induction r generalizing acc xs with
  | nil => exact k
  | @cons q p qs ps' h t ih =>
    obtain ⟨h1, h2, h3⟩ := h
    refine ih (acc := putK acc q.1 q.2.2) (xs := storedH xs p.1 p.2.1 p.2.2) (fun z hz => hk z (List.mem_cons_of_mem _ hz)) ?_
    rw [h1, h2]
    exact k.put q.1 (hk q List.mem_cons_self) h3
theorem call_dictPT {X : Cx} (hcalm : X.calm = true) (hu : X.A.units + 2 < cLine) : CallR X (.type "dict") (fun xs H Q => ∃ (a : Addr) (ps : List Addr) (rows : List (List Key × Addr × V)), xs = [.ref a] ∧ H a = some (.lst (ps.map V.ref)) ∧ RowsDT H ps rows ∧
    ∀ p, H p = none → Q (.ref p) (upd H p (.dT (putsK [] rows)))) := by
  intro pins s σ H xs us Q I r h
  obtain ⟨a, ps, rows, rfl, ha, hr, q⟩ := h
  obtain ⟨u, rfl, rx⟩ := r.one
  cases rx
  obtain ⟨its, rv, pl, hz⟩ := I.list (SqL.of (K := X.K) ha)
  have ei := L2.refs_at rv
  subst ei
  rw [List.length_map] at hz
  obtain ⟨prs, rel, hpr⟩ := rows_vals I hr
  have hl : prs.length = ps.length := by rw [← Paired.length rel, hr.1]
  obtain ⟨o, n, ho, hc, hd, hdat⟩ := pl
  have tupk : ∀ q ∈ rows, H q.2.1 = some (.tup (q.1.map kV)) := fun q hq => by
    obtain ⟨j, hj, rfl⟩ := List.getElem_of_mem hq
    exact (hr.2 j (ps[j]'(by rw [hr.1]; exact hj)) _ (List.getElem?_eq_getElem _) (List.getElem?_eq_getElem hj)).2
  have keyp : ∀ p ∈ prs, IsTupleKey (mixKind X.prog X.w) s.heap p.1 p.2.1 := by
    have : ∀ {rows : List (List Key × Addr × V)} {prs : List (List Key × Addr × Value)}, RV rows prs → (∀ q ∈ rows, H q.2.1 = some (.tup (q.1.map kV))) → ∀ p ∈ prs, IsTupleKey (mixKind X.prog X.w) s.heap p.1 p.2.1 := by
      intro rows prs r
      induction r with
      | nil => intro _ p hp; exact absurd hp List.not_mem_nil
      | @cons q p qs ps' h t ih =>
        intro hk z hz
        rcases List.mem_cons.mp hz with rfl | hz
        · rw [h.1, h.2.1]
          exact key_of I.hok (hk q List.mem_cons_self)
        · exact ih (fun y hy => hk y (List.mem_cons_of_mem _ hy)) z hz
    exact this rel tupk
  refine call_dict_pairsH (knd := tupleKind (mixKind X.prog X.w)) (ps := prs) (PairArg.list a (ps.map Value.ref).toArray (fun j => ps.getD j 0) (prs.map fun q => (.ref q.2.1, q.2.2))) (I.ok.hd hcalm) (show X.A.units + 1 + 1 < cLine by omega)
    ⟨⟨o, n, ho, hc, hd, hdat⟩, ?_, ?_⟩ ⟨?_, ?_⟩ ?_ (by rw [List.length_map, hl]; exact hz) fun h' tk hd' k => ?_
  · simp [hl]
  · intro j k v e
    rw [List.getElem?_map] at e
    obtain ⟨z, hz2, e2⟩ := Option.map_eq_some_iff.mp e
    cases e2
    obtain ⟨b, e1, ht⟩ := hpr j z hz2
    have ej : ps.getD j 0 = b := by rw [List.getD_eq_getElem?_getD, e1] <;> rfl
    show _ = some (Value.ref (ps.getD j 0)) ∧ PairAt s.heap (ps.getD j 0) _ _
    rw [ej]
    exact ⟨by simp [e1], .inl ht⟩
  · rw [List.length_map]
  · intro i key v e
    have e' : (prs.map fun q => ((Value.ref q.2.1, q.2.2) : Value × Value))[i]? = some (key, v) := e
    rw [List.getElem?_map] at e'
    obtain ⟨z, hz2, e2⟩ := Option.map_eq_some_iff.mp e'
    cases e2
    exact ⟨z.1, z.2.1, hz2, rfl⟩
  · intro h' hk x hx
    obtain ⟨ob, its2, n2, ho2, r2⟩ := keyp x hx
    exact ⟨ob, its2, n2, hk _ _ (Nat.ne_of_lt (Heap.lt_size ho2)) (by simp) ho2, r2⟩
  · have hm : (s.heap.objs.size == sysModules) = false := beq_eq_false_iff_ne.mpr (Nat.ne_of_gt I.big)
    have hn := I.hok.fresh (Nat.le_refl s.heap.objs.size)
    refine ⟨.ref s.heap.objs.size, upd H s.heap.objs.size (.dT (putsK [] rows)), I.laid (t' := tk) (fun b o e => k b o (by simp) e) (Nat.le_refl _) (show ObjOk X.prog X.w _ _ _ (.dT (putsK [] rows)) from ⟨?_, hm, storedAllH [] prs, ?_, ?_⟩), rfl, q _ hn⟩
    · have := putsK_len rows []
      rw [List.length_nil, Nat.zero_add, ← hr.1] at this
      omega
    · exact (kt_puts rel tupk .nil).keeps fun b ys e => by rw [upd_ne (ne_of_none e hn)]; exact e
    · obtain ⟨o, es, ep, hq, h2, h3, h4, _, h5⟩ := hd'
      exact ⟨o, es, ep, hq, h2, h3, h4, h5⟩
end Toy
/-! ### d.setdefault(t, v) of a dict by tuples (mine) -/
namespace Toy
open PySem PySem.Spec PyProof.Rows L2 HT
section
variable {X : Cx}
def rSetdT : V → List V → Hp → VK → Prop := fun x xs H Q => ∃ (a : Addr) (kvs : List (List L2.Key × V)) (k : List L2.Key) (b : Addr) (d : V), x = .ref a ∧ xs = [.ref b, d] ∧ H a = some (.dT kvs) ∧ H b = some (.tup (k.map kV)) ∧ kvs.length < sizeLine ∧
  (∀ v, valV kvs k = some v → Q v H) ∧ (valV kvs k = none → Q d (upd H a (.dT (putK kvs k d))))
theorem mt_setdT (hu : X.A.units + 1 < cLine) : MtR X "dict.setdefault" rSetdT := by
  intro pins s σ H x xs v us Q I rx rxs h
  obtain ⟨a, kvs, k, b, d, rfl, rfl, ha, hb, hl, q1, q2⟩ := h
  cases rx
  obtain ⟨u1, u2, rfl, r1, r2⟩ := vals2 rxs
  cases r1
  obtain ⟨z, hd, xs', rel, dd⟩ := dt_of I.hok ha
  have hz : xs'.length ≤ sizeLine := by rw [← Paired.length rel]; exact z
  refine PySem.call_setdefault_heap (hsz := hz) (knd := tupleKind (mixKind X.prog X.w)) (k := k) (tupleKind_room_in1 hu) (key_of I.hok hb) hd dd (fun p hp => ?_) fun hn h' dd' hs => ?_
  · have r := rel.val k
    rw [hp] at r
    obtain ⟨v0, ev, rv⟩ : ∃ v0, valV kvs k = some v0 ∧ RelV v0 p.2 := by
      cases ev : valV kvs k with
      | none =>
        rw [ev] at r
        exact (show False from r).elim
      | some v0 =>
        rw [ev] at r
        exact ⟨v0, rfl, r⟩
    show EP X pins σ Q p.2 _
    exact ⟨v0, H, I.tok _, rv, q1 v0 ev⟩
  · have r := rel.val k
    rw [hn] at r
    have e : valV kvs k = none := by
      cases ev : valV kvs k with
      | none => rfl
      | some v0 =>
        rw [ev] at r
        exact (show False from r).elim
    obtain ⟨o, es, ep, hq, h2, h3, h4, _, h5⟩ := dd'
    have lk : (putK kvs k d).length ≤ sizeLine := by have := length_putK kvs k d; omega
    have I2 := d_write (ob := .dT (putK kvs k d)) (t' := s.toks + (tupleKind (mixKind X.prog X.w)).draws k) I (by rw [ha]; exact True.intro) hs ⟨o, hq⟩ ⟨lk, hd, _, (rel.put k hb r2).keeps (fun c ys ec => (by rw [upd_ne (ne_of ec ha (fun z => nomatch z))]; exact ec)), o, es, ep, hq, h2, h3, h4, h5⟩
    show EP X pins σ Q u2 _
    exact ⟨d, _, I2, r2, q2 e⟩
end
end Toy
/-! ### sorted(t) of a tuple -/
namespace SrtO
open PySem PyProof.Rows Srt
section
variable {prog : Program} {w : World} {A : Around} {E : Value → Shared → Prop} {s : Shared}
theorem collect_tupT {l : Addr} {vs : List Value} {Q : List Value → Shared → Prop} (hl : s.heap.IsTuple l vs.toArray)
    (h : Q vs { s with heap := (s.heap.push (seqObj "list" #[] 0)).update s.heap.objs.size (Obj.mapSeq (· ++ vs.toArray)) }) (hsz : vs.length ≤ sizeLine := by size_fits) :
    wpAny (model prog w) A (collect (.ref l)) Q E s := by
  obtain ⟨o, ho, hc, n, hd⟩ := id hl
  unfold collect
  refine wpAny_bind (wpAny_runValue (codeAny_builtin entry_proto_collect' ?_))
  show wpAny _ _ (do again (.builtin "list.__iadd__" ⟨[← newList [], .ref l], []⟩)) _ _ s
  refine wpAny_bind (wpAny_newList (wpAny_pure ⟨Code.quiet_builtin _ (by decide +kernel), codeAny_builtin entry_list_iadd' ?_⟩))
  show wpAny _ _ (Builtin.List.listExtendWith (.ref s.heap.objs.size) (.ref l) (.ref s.heap.objs.size)) _ _ { s with heap := s.heap.push (seqObj "list" #[] 0) }
  unfold Builtin.List.listExtendWith
  have ho' : (s.heap.push (seqObj "list" #[] 0)).get? l = some o := Heap.get?_push_of_some _ ho
  refine wpAny_bind (wpAny_typeOf (T := "tuple") ⟨o, ho', hc⟩ ?_)
  have ht : (Value.type "tuple" == Value.type "tuple") = true := by rfl
  rw [if_pos (by rw [ht]; simp)]
  refine wpAny_bind (listItems_at ho' hd ?_)
  refine wpAny_bind (listItems_at (xs := #[]) (n := 0) (Heap.get?_push_size _ rfl) rfl ?_)
  rw [if_neg (by simp)]
  refine wpAny_bind (listUpdate_at (xs := #[]) (n := 0) (Heap.get?_push_size _ rfl) rfl ?_ (Nat.zero_le _) (by show (#[] ++ vs.toArray).size ≤ sizeLine + 1; simp only [Array.size_append, List.size_toArray, List.length_nil]; omega))
  refine wpAny_pure ?_
  show wpAny (model prog w) A (do
      let o ← load s.heap.objs.size
      match o.data with
      | .seq xs _ => pure xs.toList
      | _ => unsupported "internal:collect") Q E { s with heap := (s.heap.push (seqObj "list" #[] 0)).update s.heap.objs.size (Obj.mapSeq (· ++ vs.toArray)) }
  refine wpAny_bind (wpAny_load (get?_update_seq (Heap.get?_push_size _ rfl) _) ?_)
  show wpAny _ _ (pure ((#[] : Array Value) ++ vs.toArray).toList) Q E _
  rw [show ((#[] : Array Value) ++ vs.toArray).toList = vs by simp]
  exact wpAny_pure h
theorem sorted_ordT {l : Addr} {vs : List Value} {ltv : Value → Value → Bool} {Q : Value → Shared → Prop} (O : Swo ltv) (hl : s.heap.IsTuple l vs.toArray) (hz : vs.length ≤ sizeLine)
    (hS : 2 ≤ vs.length → ∀ (h₁ : Heap) (a : Addr), h₁.get? a = some (seqObj "list" vs.toArray 0) → (∀ b o, s.heap.get? b = some o → b ≠ a ∧ h₁.get? b = some o) → SortableO prog w A.in1.in1 { s with heap := h₁ } a vs ltv)
    (h : ∀ out : List Value, Srtd ltv out → Stb ltv out vs → Q (.ref (s.heap.objs.size + 1)) { s with heap := sortedAll s.heap vs out.toArray }) :
    wpAny (model prog w) A (call (.builtin "sorted") [.ref l]) Q E s := by
  refine Calls.call_function_entry kind_sorted plain_sorted entry_sorted (args_sorted1 _) ?_
  unfold Builtin.«sorted»
  refine wpAny_bind (m := checkCount "sorted" 1 1 _) (wpAny_pure ?_)
  refine wpAny_bind (collect_tupT hl ?_ hz)
  refine wpAny_bind (wpAny_newList ?_ hz)
  have hsz : ((s.heap.push (seqObj "list" #[] 0)).update s.heap.objs.size (Obj.mapSeq (· ++ vs.toArray))).objs.size = s.heap.objs.size + 1 := by
    rw [Heap.size_update, size_push']
  have hoL : (((s.heap.push (seqObj "list" #[] 0)).update s.heap.objs.size (Obj.mapSeq (· ++ vs.toArray))).push (seqObj "list" vs.toArray 0)).get? (s.heap.objs.size + 1) = some (seqObj "list" vs.toArray 0) := by
    rw [← hsz]; exact Heap.get?_push_size _ rfl
  have keep : ∀ b o, s.heap.get? b = some o → b ≠ s.heap.objs.size + 1 ∧ (((s.heap.push (seqObj "list" #[] 0)).update s.heap.objs.size (Obj.mapSeq (· ++ vs.toArray))).push (seqObj "list" vs.toArray 0)).get? b = some o := fun b o q => by
    have hlt : b < s.heap.objs.size := Heap.lt_size q
    refine ⟨Nat.ne_of_lt (Nat.lt_succ_of_lt hlt), Heap.get?_push_of_some _ ?_⟩
    rw [Heap.get?_update_ne _ _ _ _ (Nat.ne_of_lt hlt)]
    exact Heap.get?_push_of_some _ q
  show wpAny _ _ _ _ _ { s with heap := ((s.heap.push (seqObj "list" #[] 0)).update s.heap.objs.size (Obj.mapSeq (· ++ vs.toArray))).push (seqObj "list" vs.toArray 0) }
  rw [hsz]
  refine wpAny_bind (wpAny_holding (wpAny_call_entry slot_list_sort ⟨_, hoL, rfl⟩ entry_list_sort (list_sort_ord O hoL hz (fun h2 => hS h2 _ _ hoL keep) fun out hs hb => ⟨_, rfl, ?_⟩) (args_list_sort _)))
  exact wpAny_pure ⟨_, rfl, h out hs hb⟩
end
end SrtO
namespace Toy
open PySem PySem.Spec PyProof.Rows L2
def rSortedIT (K : PySem.W.Frag) : List V → Hp → VK → Prop := fun vs H Q => ∃ (a : Addr) (ns : List Int), vs = [V.ref a] ∧ SqT K H a (ns.map V.int) ∧
  ∀ (ns' : List Int) (p : Addr), ns'.Perm ns → ns'.Pairwise (· ≤ ·) → H p = none → Q (.ref p) (upd H p (.lst (ns'.map V.int)))
theorem cr_sortedIT {X : Cx} : CallR X (.builtin "sorted") (rSortedIT X.K) := by
  intro pins s σ H vs us Q I r h
  obtain ⟨a, ns, rfl, hs, q⟩ := h
  obtain ⟨its, rv, hl, hz⟩ := I.tuple hs
  rw [Vals.ref1 r]
  have hi := rv.ints
  refine SrtO.sorted_ordT SrtO.swo_int (tup_is hl) (by rw [← rv.length]; exact hz) (fun h2 h₁ a' _ _ => SrtO.ints_sortable hi h2) fun out h1 h2 => ?_
  obtain ⟨k1, k2, k3⟩ := SrtO.ints_out hi h1 h2
  obtain ⟨ep, he'⟩ := PyProof.Rows.sortedAll_at s.heap its out.toArray
  have hlen : ((out.map SrtO.iv).map V.int).length ≤ sizeLine := by
    rw [List.length_map, k2.length_eq]
    rw [List.length_map] at hz
    exact hz
  exact ⟨.ref _, upd H (s.heap.objs.size + 1) (.lst ((out.map SrtO.iv).map V.int)), I.laid (t' := s.toks) (fun _ _ => PyProof.Rows.sortedAll_old) (Nat.le_succ _) ⟨hlen, out, ep, vals_of_ints k1, he'⟩, rfl, q _ _ k2 k3 (I.hok.fresh (Nat.le_succ _))⟩
/-! ### xs[lo::step] of a list of an even number of things, by twos -/
def by2 {α : Type} (lo : Nat) (xs : List α) : List α := (List.range (xs.length / 2)).filterMap fun i => xs[lo + 2 * i]?
def tStep (K : PySem.W.Frag) (lo : Nat) (te : TE) : TE := fun σ H Q => te σ H fun x H1 => ∃ a xs, x = .ref a ∧ SqL K H1 a xs ∧ xs.length % 2 = 0 ∧ ∀ p, H1 p = none → Q (.ref p) (upd H1 p (.lst (by2 lo xs)))
theorem by2_len {α : Type} {lo : Nat} (hl : lo ≤ 1) {xs : List α} : (by2 lo xs).length ≤ xs.length := by
  unfold by2
  refine Nat.le_trans (List.length_filterMap_le _ _) ?_
  rw [List.length_range]
  omega
theorem pick2 {lo : Nat} (hl : lo ≤ 1) {its : List Value} (h2 : its.length % 2 = 0) : slicePick its.toArray (some (lo : Int)) none (some 2) = (by2 lo its).toArray := by
  unfold slicePick by2
  congr 1
  have e : sliceBounds (some (lo : Int)) none (some 2) its.toArray.size = (if its.length = 0 then (0 : Int) else (lo : Int), (its.length : Int), 2) := by
    simp only [sliceBounds, Option.getD_some, List.size_toArray]
    have h1 : ¬ ((lo : Int) < 0) := by omega
    simp only [h1, if_false, show (2 : Int) > 0 by decide, if_true]
    split
    · congr 1; omega
    · congr 1; omega
  rw [e]
  dsimp only
  unfold sliceRange
  by_cases h0 : its.length = 0
  · have : its = [] := List.eq_nil_of_length_eq_zero h0
    subst this
    rfl
  · simp only [h0, if_false, show (2 : Int) > 0 by decide, if_true]
    rw [if_pos (by omega : (lo : Int) < (its.length : Int)), show (((its.length : Int) - lo + 2 - 1) / 2).toNat = its.length / 2 by omega, List.filterMap_map]
    refine congrArg (fun f => List.filterMap f (List.range (its.length / 2))) (funext fun k => ?_)
    show its.toArray[((lo : Int) + 2 * (k : Int)).toNat]? = _
    rw [show ((lo : Int) + 2 * (k : Int)).toNat = lo + 2 * k by omega]
    simp
theorem Vals.by2 {lo : Nat} {xs : List V} {us : List Value} (r : Vals xs us) : Vals (by2 lo xs) (by2 lo us) := by
  unfold Toy.by2
  rw [r.length]
  generalize List.range (us.length / 2) = l
  induction l with
  | nil => exact .nil
  | cons i l ih =>
    cases hx : xs[lo + 2 * i]? with
    | none =>
      have hu : us[lo + 2 * i]? = none := by
        rw [List.getElem?_eq_none_iff] at hx ⊢
        rw [← r.length]; exact hx
      rw [List.filterMap_cons, List.filterMap_cons, hx, hu]
      exact ih
    | some x =>
      obtain ⟨u, hu, ru⟩ := r.get hx
      rw [List.filterMap_cons, List.filterMap_cons, hx, hu]
      exact .cons ru ih
theorem pe_step2 {X : Cx} {e : Expr} {te : TE} {lo : Nat} (hlo : lo ≤ 1) {i : Int} (hi : i = (lo : Int)) {k j : Nat} {p1 p2 p3 pos : Pos} (he : PE X e te) : PE X (.Subscript e (.Slice (some (.Constant (.int i) k p1)) none (some (.Constant (.int 2) j p2)) p3) pos) (tStep X.K lo te) := by
  subst hi
  refine ⟨fun pins s σ H Q I h => ?_⟩
  refine Subscript_ (thn (he.run pins s σ H _ I h) fun v s1 ⟨x, H1, I1, r1, q1⟩ => ?_)
  obtain ⟨a, xs, ex, hx, heven, q⟩ := q1
  subst ex
  cases r1
  have hlw : PO X (some (.Constant (.int (lo : Int)) k p1)) (tPart (tC (.int (lo : Int)))) := po_some pe_int
  have hst : PO X (some (.Constant (.int 2) j p2)) (tPart (tC (.int 2))) := po_some pe_int
  refine wpAny_Slice (thn (hlw.run pins s1 σ H1 (fun o H2 => o = some (lo : Int) ∧ H2 = H1) I1 ⟨_, rfl, rfl, rfl⟩) fun vl s2 ⟨l, H2, I2, pl, el, e2⟩ => ?_)
  subst el e2
  refine thn (po_none.run pins s2 σ H2 (fun o H3 => o = none ∧ H3 = H2) I2 ⟨rfl, rfl⟩) fun vu s3 ⟨u, H3, I3, pu, eu, e3⟩ => ?_
  subst eu e3
  refine thn (hst.run pins s3 σ H3 (fun o H4 => o = some 2 ∧ H4 = H3) I3 ⟨2, rfl, rfl, rfl⟩) fun vs s4 ⟨o, H4, I4, ps, eo, e4⟩ => ?_
  subst eo e4
  have I5 : Inv X pins σ H4 { s4 with heap := s4.heap.push { cls := .type "slice", data := .fields #[vl, vu, vs] } } := I4.kept (t' := s4.toks) fun b ob q => Heap.get?_push_of_some _ q
  obtain ⟨its, r, ht, hz⟩ := I5.list hx
  have hlen := r.length
  show wpAny (model X.prog X.w) X.A (subscriptTail e (.Slice (some (.Constant (.int (lo : Int)) k p1)) none (some (.Constant (.int 2) j p2)) p3) (.ref a) (.ref s4.heap.objs.size)) (EP X pins σ Q) X.xe { s4 with heap := s4.heap.push { cls := .type "slice", data := .fields #[vl, vu, vs] } }
  refine tail_any (ops := [.ref a, .ref s4.heap.objs.size]) ht.isList.typeIs (PySem.slot_list_getitem.lookup) ?_ (by with_unfolding_all rfl)
  refine wpAny_getItem_list_slice ht.isList (Heap.IsSliceOf.new _ vl vu vs) pl pu ps (by decide) ?_ (by rw [List.size_toArray]; omega)
  rw [pick2 hlo (by omega)]
  refine ⟨.ref _, _, I5.laid (t' := s4.toks) (o := .lst (by2 lo xs)) (fun b ob q => Heap.get?_push_of_some _ q) (Nat.le_refl _) ?_, rfl, q _ (I5.hok.fresh (Nat.le_refl _))⟩
  exact ⟨Nat.le_trans (by2_len hlo) hz, _, 0, Vals.by2 r, Heap.get?_push_size _ rfl⟩
/-! ### [.. for i in range(lo, hi, c)] -/
theorem lc_rangeC {lo c : Int} {n : Nat} {g : TG} {tt : TT} {te : TE} {vs : List Nat} {σ : L2.St} {H1 : Hp} {D : Addr} {Qd : Hp → Prop} (Pv : Nat → Hp → Prop) (h0 : Pv 0 (upd H1 D (.lst [])))
    (hs : ∀ (i : Nat) H, i < n → Pv i H → g (.int (lo + (i : Nat) * c)) (wipe σ vs) H fun σ2 H2 => wipe σ2 vs = wipe σ vs ∧ tt σ2 H2 fun b H3 =>
      if b = true then te σ2 H3 fun y H4 => ∃ acc, H4 D = some (.lst acc) ∧ acc.length < sizeLine ∧ Pv (i + 1) (upd H4 D (.lst (acc ++ [y]))) else Pv (i + 1) H3) (hd : ∀ H, Pv n H → Qd H) :
    ∃ W : Nat → Nat → Hp → Prop, (∃ m, W 0 m (upd H1 D (.lst []))) ∧ ∀ i m H, W i m H →
      ((Itc lo c n).stop i H ∧ Qd H) ∨ ((Itc lo c n).go i H ∧ ∃ Nx : Hp → Prop, (∀ H', Nx H' → ∃ m', m' < m ∧ W (i + 1) m' H') ∧ ∀ x H', (Itc lo c n).yld i H x H' → g x (wipe σ vs) H' fun σ2 H2 => wipe σ2 vs = wipe σ vs ∧ tt σ2 H2 fun b H3 =>
        if b = true then te σ2 H3 fun y H4 => ∃ acc, H4 D = some (.lst acc) ∧ acc.length < sizeLine ∧ Nx (upd H4 D (.lst (acc ++ [y]))) else Nx H3) := by
  refine lc_it (I := Itc lo c n) (n := n) Pv h0 (fun i H hi p => hi) (fun H p => Nat.le_refl _) ?_ hd
  rintro i x H H' hi p ⟨e, y⟩
  subst e y
  exact hs i _ hi p
end Toy
/-! ### range(n) as a thing, x not in it -/
namespace Toy
open PySem PySem.Spec PyProof.Rows L2
def rRg1 : List V → Hp → VK → Prop := fun vs H Q => ∃ j, vs = [V.int j] ∧ ∀ p, H p = none → Q (.ref p) (upd H p (.rng 0 j))
theorem cr_rg1 {X : Cx} : CallR X (.type "range") rRg1 := by
  intro pins s σ H vs us Q I r h
  obtain ⟨j, rfl, q⟩ := h
  obtain ⟨u1, rfl, ri⟩ := vals1 r
  obtain ⟨t, rfl⟩ := ri
  refine call_range_1 ⟨.ref s.heap.objs.size, upd H s.heap.objs.size (.rng 0 j), I.laid (fun b o e => Heap.get?_push_of_some _ e) (Nat.le_refl _) ?_, rfl, q _ (I.hok.fresh (Nat.le_refl _))⟩
  exact ⟨_, _, _, Heap.get?_push_size _ rfl⟩
def rNotRg : R2 := fun x y H Q => ∃ i a lo hi, x = V.int i ∧ y = V.ref a ∧ H a = some (.rng lo hi) ∧ Q (.bl (!decide (lo ≤ i ∧ i < hi))) H
theorem op_notin_rg {X : Cx} : OpR X (compareOp .NotIn) rNotRg := by
  intro pins s σ H x y v u Q I rx ry h
  obtain ⟨i, a, lo, hi, rfl, rfl, ha, q⟩ := h
  obtain ⟨k, rfl⟩ := rx
  obtain rfl : u = Value.ref a := ry
  obtain ⟨t1, t2, t3, ho⟩ := I.hok a _ ha
  show wpAny _ _ (do return Value.bool (!(← contains (Value.ref a) (Value.int i k)))) _ _ s
  refine wpAny_bind (wpAny_contains_slot (T := "range") ⟨_, ho, rfl⟩ F.slot_range_contains (call_meets F.slot_range_contains ⟨_, ho, rfl⟩ F.entry_range_contains (F.args_range_contains_2 _ _) (q_contains a lo hi i t1 t2 t3 k)
    ⟨ho, wpAny_truthy_bool (wpAny_pure ⟨.bl _, H, I, rfl, ?_⟩)⟩))
  rw [place1]
  exact q
/-! ### data: figures of a number -/
def fig (k n at_ : Nat) : Int := Builtin.bitAnd ((n : Int) / 2 ^ (((k : Int) - 1 - at_).toNat)) 1
def figs (k n : Nat) : List Int := (List.range k).map (fig k n)
def num (fs : List Int) : Int := fs.foldl (fun f o => 2 * f + o) 0
def lline (k h g lv : Nat) : Int := num ((figs k g).take lv ++ (figs k h).drop lv)
def low (k h g lv : Nat) : Int := Builtin.bitOr ((g : Int) / 2 ^ ((k : Int) - lv).toNat * 2 ^ ((k : Int) - lv).toNat) (Builtin.bitAnd h (1 * 2 ^ ((k : Int) - lv).toNat - 1))
def nwo (k l st : Nat) : Int := Builtin.bitOr ((l : Int) / 2 ^ ((k : Int) - st + 1).toNat * 2 ^ ((k : Int) - st).toNat) (Builtin.bitAnd l (1 * 2 ^ ((k : Int) - st).toNat - 1))
def nums (k l st : Nat) : Int := num ((figs k l).take (st - 1) ++ (figs k l).drop st)
theorem low_is : ∀ k, k < 5 → ∀ h, h < 2 ^ k → ∀ g, g < 2 ^ k → ∀ lv, lv < k + 1 → low k h g lv = lline k h g lv := by decide +kernel
theorem lline_in : ∀ k, k < 5 → ∀ h, h < 2 ^ k → ∀ g, g < 2 ^ k → ∀ lv, lv < k + 1 → 0 ≤ lline k h g lv ∧ lline k h g lv < 2 ^ k := by decide +kernel
theorem nwo_is : ∀ k, k < 5 → ∀ l, l < 2 ^ k → ∀ st, st < k + 1 → st = 0 ∨ nwo k l st = nums k l st := by decide +kernel
theorem nums_same : ∀ k, k < 5 → ∀ h, h < 2 ^ k → ∀ g, g < 2 ^ k → ∀ st, st < k → nums k (lline k h g (st + 1)).toNat (st + 1) = nums k (lline k h g st).toNat (st + 1) := by decide +kernel
theorem cut_to {xs : List V} (n : Nat) : cutV xs none (some (n : Int)) = xs.take n := by
  unfold cutV
  rw [HT.sIx_nat, HT.sIx_none, List.drop_zero, Nat.sub_zero]
  by_cases c : n ≤ xs.length
  · rw [Nat.min_eq_left c]
  · rw [Nat.min_eq_right (by omega), List.take_length, List.take_of_length_le (by omega)]
theorem cut_from {xs : List V} (n : Nat) : cutV xs (some (n : Int)) none = xs.drop n := by
  unfold cutV
  rw [HT.sIx_nat, HT.sIx_none]
  by_cases c : n ≤ xs.length
  · rw [Nat.min_eq_left c]
    exact List.take_of_length_le (by rw [List.length_drop]; omega)
  · rw [Nat.min_eq_right (by omega), Nat.sub_self, List.take_zero, List.drop_of_length_le (by omega)]
theorem bits_one : Builtin.Int.intBits 1 ≤ 10 := by decide +kernel
theorem shl_ok {n : Nat} (h : n ≤ 1000) : CShl 1 (n : Int) := by
  have := bits_one
  exact ⟨by omega, by omega⟩
theorem shl_small {i j : Int} (h : i.natAbs < 2 ^ 64) (h0 : 0 ≤ j) (h1 : j ≤ 1000) : CShl i j := by
  refine ⟨h0, ?_⟩
  have h2 := log_lt (n := 64) (by decide) h
  unfold Builtin.Int.intBits
  split <;> omega
theorem div_small {g m : Nat} (h : g < 2 ^ 64) : ((g : Int) / 2 ^ m).natAbs < 2 ^ 64 := by
  have e : (g : Int) / 2 ^ m = ((g / 2 ^ m : Nat) : Int) := by push_cast; rfl
  rw [e, Int.natAbs_natCast]
  exact Nat.lt_of_le_of_lt (Nat.div_le_self _ _) h
theorem pow16 {k g : Nat} (hk : k ≤ 4) (h : g < 2 ^ k) : g < 16 := Nat.lt_of_lt_of_le h (Nat.pow_le_pow_right (by decide) hk : 2 ^ k ≤ 2 ^ 4)
def Bits (fs : List Int) : Prop := (∀ x ∈ fs, 0 ≤ x ∧ x ≤ 1) ∧ fs.length ≤ 10
theorem figs_all : ∀ k, k < 5 → ∀ n, n < 2 ^ k → (figs k n).all (fun x => decide (0 ≤ x) && decide (x ≤ 1)) = true := by decide +kernel
theorem figs_bits {k n : Nat} (h : k ≤ 4) (hn : n < 2 ^ k) : Bits (figs k n) := by
  have h1 := figs_all k (by omega) n hn
  rw [List.all_eq_true] at h1
  refine ⟨fun x hx => ?_, by unfold figs; rw [List.length_map, List.length_range]; omega⟩
  have := h1 x hx
  simpa using this
theorem Bits.cat {k : Nat} {xs ys : List Int} (h : k ≤ 4) (a : ∀ x ∈ xs, 0 ≤ x ∧ x ≤ 1) (b : ∀ x ∈ ys, 0 ≤ x ∧ x ≤ 1) (i j : Nat) (hx : xs.length ≤ 5) (hy : ys.length ≤ 5) : Bits (xs.take i ++ ys.drop j) := by
  refine ⟨fun x hm => ?_, by rw [List.length_append, List.length_take, List.length_drop]; omega⟩
  rcases List.mem_append.mp hm with h | h
  · exact a x (List.mem_of_mem_take h)
  · exact b x (List.mem_of_mem_drop h)
theorem num_snoc {fs : List Int} {x : Int} : num (fs ++ [x]) = 2 * num fs + x := by unfold num; rw [List.foldl_append] <;> rfl
theorem num_in : ∀ {fs : List Int} (n : Nat), Bits fs → 0 ≤ num (fs.take n) ∧ num (fs.take n) < 2 ^ n := by
  intro fs n h
  induction n with
  | zero => rw [List.take_zero]; exact ⟨by decide, by decide⟩
  | succ n ih =>
    by_cases c : n < fs.length
    · rw [List.take_succ_eq_append_getElem c, num_snoc]
      have := h.1 _ (List.getElem_mem c)
      have e : (2 : Int) ^ (n + 1) = 2 ^ n * 2 := Int.pow_succ 2 n
      omega
    · rw [List.take_of_length_le (by omega)]
      rw [List.take_of_length_le (by omega)] at ih
      have e : (2 : Int) ^ (n + 1) = 2 ^ n * 2 := Int.pow_succ 2 n
      omega
theorem figs_len {k n : Nat} : (figs k n).length = k := by unfold figs; rw [List.length_map, List.length_range]
theorem repF_len {n : Nat} : ((List.replicate n false).map V.bl).length = n := by rw [List.length_map, List.length_replicate]
theorem repF_snoc {n : Nat} : (List.replicate n false).map V.bl ++ [V.bl false] = (List.replicate (n + 1) false).map V.bl := by rw [List.replicate_succ', List.map_append] <;> rfl
theorem repF_any (n : Nat) : (List.replicate n false).any id = false := by
  induction n with
  | zero => rfl
  | succ n ih => rw [List.replicate_succ, List.any_cons, ih] <;> rfl
def SwAt (H : Hp) (T : Addr) (k h g : Nat) : Prop := ∃ as : List Addr, H T = some (.tup (as.map V.ref)) ∧ as.length = k ∧ ∀ (j : Nat) (a : Addr), as[j]? = some a → H a = some (.tup [.int ((j + 1 : Nat) : Int), .int (nwo k (lline k h g j).toNat (j + 1))])
theorem primes6 : ∀ j : Nat, j < 6 → ∃ z : Int, ([.int 2147483647, .int 2147483629, .int 2147483587, .int 2147483579, .int 2147483563, .int 2147483549] : List V)[j]? = some (.int z) ∧ 2147483549 ≤ z ∧ z ≤ 2147483647
  | 0, _ => ⟨_, rfl, by decide, by decide⟩
  | 1, _ => ⟨_, rfl, by decide, by decide⟩
  | 2, _ => ⟨_, rfl, by decide, by decide⟩
  | 3, _ => ⟨_, rfl, by decide, by decide⟩
  | 4, _ => ⟨_, rfl, by decide, by decide⟩
  | 5, _ => ⟨_, rfl, by decide, by decide⟩
  | n + 6, h => absurd h (by omega)
/-! ### rows of pairs -/
def PtsAt (H : Hp) (ts : List Addr) (ps : List (Nat × Nat)) : Prop := ts.length = ps.length ∧ ∀ (j : Nat) (t : Addr) (p : Nat × Nat), ts[j]? = some t → ps[j]? = some p → H t = some (.tup [.int (p.1 : Nat), .int (p.2 : Nat)])
theorem PtsAt.same {H H' : Hp} {ts : List Addr} {ps : List (Nat × Nat)} (e : Same H H') (h : PtsAt H ts ps) : PtsAt H' ts ps := ⟨h.1, fun j t p h1 h2 => e _ _ (h.2 j t p h1 h2)⟩
theorem PtsAt.app {H : Hp} {ts us : List Addr} {ps qs : List (Nat × Nat)} (a : PtsAt H ts ps) (b : PtsAt H us qs) : PtsAt H (ts ++ us) (ps ++ qs) := by
  refine ⟨by rw [List.length_append, List.length_append, a.1, b.1], fun j t p h1 h2 => ?_⟩
  by_cases c : j < ts.length
  · rw [List.getElem?_append_left c] at h1
    rw [List.getElem?_append_left (by rw [← a.1]; exact c)] at h2
    exact a.2 j t p h1 h2
  · rw [List.getElem?_append_right (by omega)] at h1
    rw [List.getElem?_append_right (by rw [← a.1]; omega)] at h2
    rw [← a.1] at h2
    exact b.2 _ t p h1 h2
theorem PtsAt.one {H : Hp} {t : Addr} {p : Nat × Nat} (h : H t = some (.tup [.int (p.1 : Nat), .int (p.2 : Nat)])) : PtsAt H [t] [p] := by
  refine ⟨rfl, fun j t' p' h1 h2 => ?_⟩
  cases j with
  | zero => cases (Option.some.inj h1); cases (Option.some.inj h2); exact h
  | succ j => simp at h1
theorem PtsAt.keep {H H' : Hp} {ts : List Addr} {ps : List (Nat × Nat)} (h : PtsAt H ts ps) (k : ∀ t xs, H t = some (.tup xs) → H' t = some (.tup xs)) : PtsAt H' ts ps :=
  ⟨h.1, fun j t p h1 h2 => k _ _ (h.2 j t p h1 h2)⟩
/-- each is a pair of a hand and a side -/
def APr (H : Hp) (k : Nat) (ts : List Addr) : Prop := ∀ t ∈ ts, ∃ h g : Nat, H t = some (.tup [.int (h : Nat), .int (g : Nat)]) ∧ h < 2 ^ k ∧ g < 2 ^ k
theorem APr.same {H H' : Hp} {k : Nat} {ts : List Addr} (e : Same H H') (a : APr H k ts) : APr H' k ts := fun t ht => by
  obtain ⟨h, g, h1, h2⟩ := a t ht
  exact ⟨h, g, e _ _ h1, h2⟩
theorem APr.keep {H H' : Hp} {k : Nat} {ts : List Addr} (e : ∀ t xs, H t = some (.tup xs) → H' t = some (.tup xs)) (a : APr H k ts) : APr H' k ts := fun t ht => by
  obtain ⟨h, g, h1, h2⟩ := a t ht
  exact ⟨h, g, e _ _ h1, h2⟩
theorem APr.sub {H : Hp} {k : Nat} {ts us : List Addr} (a : APr H k ts) (h : ∀ t ∈ us, t ∈ ts) : APr H k us := fun t ht => a t (h t ht)
theorem APr.app {H : Hp} {k : Nat} {ts us : List Addr} (a : APr H k ts) (b : APr H k us) : APr H k (ts ++ us) := fun t ht => (List.mem_append.mp ht).elim (a t) (b t)
theorem APr.pts {H : Hp} {k : Nat} : ∀ {ts : List Addr}, APr H k ts → ∃ ps, PtsAt H ts ps ∧ ∀ p ∈ ps, p.1 < 2 ^ k ∧ p.2 < 2 ^ k
  | [], _ => ⟨[], ⟨rfl, fun j t p h => by simp at h⟩, fun p hp => absurd hp List.not_mem_nil⟩
  | t :: ts, a => by
    obtain ⟨h, g, h1, h2, h3⟩ := a t List.mem_cons_self
    obtain ⟨ps, q1, q2⟩ := APr.pts (a.sub fun t ht => List.mem_cons_of_mem _ ht)
    refine ⟨(h, g) :: ps, PtsAt.app (ts := [t]) (ps := [(h, g)]) (PtsAt.one h1) q1, fun p hp => ?_⟩
    rcases List.mem_cons.mp hp with e | e
    · rw [e]; exact ⟨h2, h3⟩
    · exact q2 p e
theorem PtsAt.rev {H : Hp} {ts : List Addr} {ps : List (Nat × Nat)} (a : PtsAt H ts ps) : PtsAt H ts.reverse ps.reverse := by
  refine ⟨by rw [List.length_reverse, List.length_reverse, a.1], fun j t p h1 h2 => ?_⟩
  have l1 := (List.getElem?_eq_some_iff.mp h1).1
  have l2 := (List.getElem?_eq_some_iff.mp h2).1
  rw [List.length_reverse] at l1 l2
  rw [List.getElem?_reverse l1] at h1
  rw [List.getElem?_reverse l2] at h2
  rw [← a.1] at h2
  exact a.2 _ t p h1 h2
theorem APr.rev {H : Hp} {k : Nat} {ts : List Addr} (a : APr H k ts) : APr H k ts.reverse := a.sub fun t ht => List.mem_reverse.mp ht
/-! ### the first shared line: the plain law -/
def lns (k : Nat) (ps : List (Nat × Nat)) (lv : Nat) : List Int := ps.map fun p => lline k p.1 p.2 lv
def Rp (L : List Int) (x : Int) : Prop := 1 < L.count x
def Fst (f : Nat → List Int) (k : Nat) : Option (Nat × Int) → Prop
  | none => ∀ lv, lv ≤ k → ∀ x, ¬ Rp (f lv) x
  | some (lv, x) => lv ≤ k ∧ Rp (f lv) x ∧ (∀ y, Rp (f lv) y → x ≤ y) ∧ ∀ lv', lv' < lv → ∀ y, ¬ Rp (f lv') y
theorem Fst.uniq {f : Nat → List Int} {k : Nat} {r r' : Option (Nat × Int)} (a : Fst f k r) (b : Fst f k r') : r = r' := by
  cases r with
  | none =>
    cases r' with
    | none => rfl
    | some p =>
      obtain ⟨lv, x⟩ := p
      obtain ⟨b1, b2, _⟩ := b
      exact absurd b2 (a lv b1 x)
  | some p =>
    obtain ⟨lv, x⟩ := p
    obtain ⟨a1, a2, a3, a4⟩ := a
    cases r' with
    | none => exact absurd a2 (b lv a1 x)
    | some p' =>
      obtain ⟨lv', x'⟩ := p'
      obtain ⟨b1, b2, b3, b4⟩ := b
      have e : lv = lv' := by
        rcases Nat.lt_trichotomy lv lv' with c | c | c
        · exact absurd a2 (b4 lv c x)
        · exact c
        · exact absurd b2 (a4 lv' c x')
      subst e
      have e2 : x = x' := Int.le_antisymm (a3 x' b2) (b3 x a2)
      rw [e2]
theorem Fst.perm {f g : Nat → List Int} {k : Nat} {r : Option (Nat × Int)} (h : ∀ lv, (f lv).Perm (g lv)) (a : Fst f k r) : Fst g k r := by
  have e : ∀ lv x, Rp (g lv) x ↔ Rp (f lv) x := fun lv x => by unfold Rp; rw [(h lv).count_eq]
  cases r with
  | none => exact fun lv hl x c => a lv hl x ((e lv x).mp c)
  | some p =>
    obtain ⟨lv, x⟩ := p
    obtain ⟨a1, a2, a3, a4⟩ := a
    exact ⟨a1, (e _ _).mpr a2, fun y hy => a3 y ((e _ _).mp hy), fun lv' h' y hy => a4 lv' h' y ((e _ _).mp hy)⟩
theorem lns_rev {k : Nat} {ps : List (Nat × Nat)} {lv : Nat} : (lns k ps.reverse lv).Perm (lns k ps lv) := by
  unfold lns
  rw [List.map_reverse]
  exact List.reverse_perm _
theorem nodup_count : ∀ {S : List Int} (y : Int), S.Nodup → S.count y ≤ 1
  | [], _, _ => by simp
  | x :: S, y, h => by
    rw [List.nodup_cons] at h
    rw [List.count_cons]
    have ih := nodup_count y h.2
    by_cases c : x = y
    · subst c
      rw [List.count_eq_zero.mpr h.1]
      split <;> omega
    · rw [if_neg (by simpa using c)]
      omega
/-- in a sorted row the first two neighbours that are alike are the least that is there twice -/
theorem sorted_next {S : List Int} (h : S.Pairwise (· ≤ ·)) {i : Nat} {x : Int} (h1 : S[i]? = some x) (h2 : S[i + 1]? = some x) : Rp S x := by
  obtain ⟨l1, e1⟩ := List.getElem?_eq_some_iff.mp h1
  obtain ⟨l2, e2⟩ := List.getElem?_eq_some_iff.mp h2
  have e : S = S.take i ++ x :: x :: S.drop (i + 2) := by
    conv => lhs; rw [← List.take_append_drop i S]
    congr 1
    rw [List.drop_eq_getElem_cons l1, List.drop_eq_getElem_cons l2, e1, e2]
  unfold Rp
  rw [e, List.count_append, List.count_cons_self, List.count_cons_self]
  omega
theorem no_next {S : List Int} (h : S.Pairwise (· ≤ ·)) {i : Nat} (hn : ∀ j x, j < i → S[j]? = some x → S[j + 1]? ≠ some x) : ∀ y, Rp S y → ∀ x, S[i]? = some x → x ≤ y := by
  intro y hy x hx
  -- else all y stand ahead of i, and no two of them beside one another
  refine Classical.byContradiction fun c => ?_
  have c2 : y < x := by omega
  obtain ⟨li, ei⟩ := List.getElem?_eq_some_iff.mp hx
  have strict : ∀ a b : Nat, ∀ (hab : a < b) (hb : b < S.length), b ≤ i → S[a]'(by omega) < S[b] := by
    intro a b hab
    induction b with
    | zero => omega
    | succ b ih =>
      intro hb hbi
      have h3 := List.pairwise_iff_getElem.mp h b (b + 1) (by omega) hb (by omega)
      have h4 : S[b]'(by omega) ≠ S[b + 1] := fun z => hn b (S[b]'(by omega)) (by omega) (List.getElem?_eq_getElem (by omega)) (by rw [List.getElem?_eq_getElem hb, z])
      rcases Nat.lt_or_ge a b with q | q
      · have := ih q (by omega) (by omega)
        omega
      · obtain rfl : a = b := by omega
        omega
  have one : (S.take (i + 1)).count y ≤ 1 := by
    have nd : (S.take (i + 1)).Nodup := by
      rw [List.nodup_iff_pairwise_ne, List.pairwise_iff_getElem]
      intro a b ha hb hab
      rw [List.length_take] at ha hb
      rw [List.getElem_take, List.getElem_take]
      have := strict a b hab (by omega) (by omega)
      omega
    exact nodup_count y nd
  have zero : (S.drop (i + 1)).count y = 0 := by
    rw [List.count_eq_zero]
    intro m
    obtain ⟨j, hj, e⟩ := List.getElem_of_mem m
    rw [List.length_drop] at hj
    rw [List.getElem_drop] at e
    have := List.pairwise_iff_getElem.mp h i (i + 1 + j) li (by omega) (by omega)
    omega
  have : S.count y = (S.take (i + 1)).count y + (S.drop (i + 1)).count y := by rw [← List.count_append, List.take_append_drop]
  unfold Rp at hy
  omega
theorem no_rep {S : List Int} (h : S.Pairwise (· ≤ ·)) (hn : ∀ j x, S[j]? = some x → S[j + 1]? ≠ some x) : ∀ y, ¬ Rp S y := by
  intro y hy
  have nd : S.Nodup := by
    rw [List.nodup_iff_pairwise_ne, List.pairwise_iff_getElem]
    intro a b ha hb hab
    have strict : ∀ b : Nat, a < b → ∀ (hb : b < S.length), S[a] < S[b] := by
      intro b hab
      induction b with
      | zero => omega
      | succ b ih =>
        intro hb
        have h3 := List.pairwise_iff_getElem.mp h b (b + 1) (by omega) hb (by omega)
        have h4 : S[b]'(by omega) ≠ S[b + 1] := fun z => hn b (S[b]'(by omega)) (List.getElem?_eq_getElem (by omega)) (by rw [List.getElem?_eq_getElem hb, z])
        rcases Nat.lt_or_ge a b with q | q
        · have := ih q (by omega)
          omega
        · obtain rfl : a = b := by omega
          omega
    have := strict b hab hb
    omega
  have := nodup_count y nd
  unfold Rp at hy
  omega
/-! settings (k35): plain facts of figures, lines and switches; wants st3d -/
def fg (k n st : Nat) : Int := Builtin.bitAnd ((n : Int) / 2 ^ ((k : Int) - st).toNat) 1
/-- the line after a switch: crossed where c is 1 -/
def stp (k : Nat) (l : Int) (st : Nat) (c : Int) : Int := Builtin.bitXor l (c * 2 ^ ((k : Int) - st).toNat)
theorem fg_fig : ∀ k, k < 5 → ∀ n, n < 2 ^ k → ∀ i, i < k → fig k n i = fg k n (i + 1) := by decide +kernel
theorem fg_bit : ∀ k, k < 5 → ∀ n, n < 2 ^ k → ∀ i, i < k → fg k n (i + 1) = 0 ∨ fg k n (i + 1) = 1 := by decide +kernel
theorem low_zero : ∀ k, k < 5 → ∀ h, h < 2 ^ k → ∀ g, g < 2 ^ k → low k h g 0 = (h : Nat) := by decide +kernel
theorem low_all : ∀ k, k < 5 → ∀ h, h < 2 ^ k → ∀ g, g < 2 ^ k → low k h g k = (g : Nat) := by decide +kernel
theorem low_step : ∀ k, k < 5 → ∀ h, h < 2 ^ k → ∀ g, g < 2 ^ k → ∀ j, j < k → low k h g (j + 1) = stp k (low k h g j) (j + 1) (Builtin.bitXor (fg k h (j + 1)) (fg k g (j + 1))) := by decide +kernel
theorem nwo_two : ∀ k, k < 5 → ∀ l : Nat, l < 2 ^ k → ∀ m : Nat, m < 2 ^ k → ∀ j, j < k → ¬ nwo k l (j + 1) = nwo k m (j + 1) ∨ l = m ∨ (m : Int) = stp k l (j + 1) 1 := by decide +kernel
theorem nwo_in : ∀ k, k < 5 → ∀ l : Nat, l < 2 ^ k → ∀ j, j < k → 0 ≤ nwo k l (j + 1) ∧ nwo k l (j + 1) < 2 ^ (k - 1) := by decide +kernel
theorem nwo_stp : ∀ k, k < 5 → ∀ l : Nat, l < 2 ^ k → ∀ j, j < k → nwo k (stp k l (j + 1) 1).toNat (j + 1) = nwo k l (j + 1) := by decide +kernel
theorem stp_in : ∀ k, k < 5 → ∀ l : Nat, l < 2 ^ k → ∀ j, j < k → 0 ≤ stp k l (j + 1) 1 ∧ stp k l (j + 1) 1 < 2 ^ k := by decide +kernel
theorem stp_zero : ∀ k, k < 5 → ∀ l : Nat, l < 2 ^ k → ∀ j, j < k → stp k l (j + 1) 0 = (l : Nat) := by decide +kernel
theorem stp_two : ∀ k, k < 5 → ∀ l : Nat, l < 2 ^ k → ∀ j, j < k → stp k (stp k l (j + 1) 1).toNat (j + 1) 1 = (l : Nat) := by decide +kernel
theorem nwo_onto : ∀ k, k < 5 → ∀ j, j < k → ∀ n, n < 2 ^ (k - 1) → ∃ l, l < 2 ^ k ∧ nwo k l (j + 1) = (n : Nat) := by decide +kernel
theorem turn_line : ∀ k, k < 5 → ∀ l : Nat, l < 2 ^ k → ∀ j, j < k → num ((figs k l).set j (1 - fig k l j)) = stp k l (j + 1) 1 := by decide +kernel
theorem stp_far : ∀ k, k < 5 → ∀ l : Nat, l < 2 ^ k → ∀ j, j < k → ∀ i, i < k → i ≠ j → fg k (stp k l (j + 1) 1).toNat (i + 1) = fg k l (i + 1) := by decide +kernel
theorem stp_near : ∀ k, k < 5 → ∀ l : Nat, l < 2 ^ k → ∀ j, j < k → fg k (stp k l (j + 1) 1).toNat (j + 1) = 1 - fg k l (j + 1) := by decide +kernel
/-- the line after j stages, by settings told as numbers -/
def la (k : Nat) (s : Nat → Nat → Int) (h : Nat) : Nat → Nat
  | 0 => h
  | j + 1 => (stp k (la k s h j : Nat) (j + 1) (s j (nwo k (la k s h j) (j + 1)).toNat)).toNat
def Bt (s : Nat → Nat → Int) : Prop := ∀ j n, s j n = 0 ∨ s j n = 1
theorem stp_bit {k l j : Nat} {c : Int} (hk : k < 5) (hl : l < 2 ^ k) (hj : j < k) (hc : c = 0 ∨ c = 1) :
    0 ≤ stp k l (j + 1) c ∧ (stp k l (j + 1) c).toNat < 2 ^ k ∧ (∀ i, i < k → i ≠ j → fg k (stp k l (j + 1) c).toNat (i + 1) = fg k l (i + 1)) ∧ fg k (stp k l (j + 1) c).toNat (j + 1) = Builtin.bitXor (fg k l (j + 1)) c := by
  rcases hc with rfl | rfl
  · rw [stp_zero k hk l hl j hj]
    refine ⟨Int.natCast_nonneg _, by rw [Int.toNat_natCast]; exact hl, fun i _ _ => by rw [Int.toNat_natCast], ?_⟩
    rw [Int.toNat_natCast]
    rcases fg_bit k hk l hl j hj with e | e <;> rw [e] <;> decide
  · have h1 := stp_in k hk l hl j hj
    refine ⟨h1.1, ?_, fun i hi hij => stp_far k hk l hl j hj i hi hij, ?_⟩
    · have h2 := h1.2
      have e : ((2 ^ k : Nat) : Int) = 2 ^ k := by push_cast; rfl
      omega
    · rw [stp_near k hk l hl j hj]
      rcases fg_bit k hk l hl j hj with e | e <;> rw [e] <;> decide
theorem la_in {k : Nat} {s : Nat → Nat → Int} {h : Nat} (hk : k < 5) (hs : Bt s) (hh : h < 2 ^ k) : ∀ j, j ≤ k → la k s h j < 2 ^ k
  | 0, _ => hh
  | j + 1, hj => (stp_bit hk (la_in hk hs hh j (by omega)) (by omega) (hs _ _)).2.1
theorem la_far {k : Nat} {s : Nat → Nat → Int} {h : Nat} (hk : k < 5) (hs : Bt s) (hh : h < 2 ^ k) : ∀ j, j ≤ k → ∀ i, j ≤ i → i < k → fg k (la k s h j) (i + 1) = fg k h (i + 1)
  | 0, _, _, _, _ => rfl
  | j + 1, hj, i, hi, hik => by
    have h1 := (stp_bit hk (la_in hk hs hh j (by omega)) (show j < k by omega) (hs j (nwo k (la k s h j) (j + 1)).toNat)).2.2.1 i hik (by omega)
    exact h1.trans (la_far hk hs hh j (by omega) i (by omega) hik)
theorem la_keep {k : Nat} {s : Nat → Nat → Int} {h : Nat} (hk : k < 5) (hs : Bt s) (hh : h < 2 ^ k) {i : Nat} : ∀ m, i + 1 + m ≤ k → fg k (la k s h (i + 1 + m)) (i + 1) = fg k (la k s h (i + 1)) (i + 1)
  | 0, _ => rfl
  | m + 1, hm => by
    have h1 := (stp_bit hk (la_in hk hs hh (i + 1 + m) (by omega)) (show i + 1 + m < k by omega) (hs (i + 1 + m) (nwo k (la k s h (i + 1 + m)) (i + 1 + m + 1)).toNat)).2.2.1 i (by omega) (by omega)
    exact h1.trans (la_keep hk hs hh m (by omega))
/-- what settings that lead h to g tell at each stage -/
theorem la_xor {k : Nat} {s : Nat → Nat → Int} {h g : Nat} (hk : k < 5) (hs : Bt s) (hh : h < 2 ^ k) (hg : la k s h k = g) {j : Nat} (hj : j < k) :
    s j (nwo k (la k s h j) (j + 1)).toNat = Builtin.bitXor (fg k h (j + 1)) (fg k g (j + 1)) := by
  have h1 := (stp_bit hk (la_in hk hs hh j (by omega)) hj (hs j (nwo k (la k s h j) (j + 1)).toNat)).2.2.2
  have h2 := la_far hk hs hh j (by omega) j (Nat.le_refl _) hj
  have h3 := la_keep hk hs hh (i := j) (k - (j + 1)) (by omega)
  rw [show j + 1 + (k - (j + 1)) = k by omega, hg] at h3
  rw [h3]
  have h4 : fg k (la k s h (j + 1)) (j + 1) = Builtin.bitXor (fg k h (j + 1)) (s j (nwo k (la k s h j) (j + 1)).toNat) := by rw [← h2]; exact h1
  rw [h4]
  rcases hs j (nwo k (la k s h j) (j + 1)).toNat with e | e <;> rcases fg_bit k hk h hh j hj with e2 | e2 <;> rw [e, e2] <;> decide
theorem la_low {k : Nat} {s : Nat → Nat → Int} {h g : Nat} (hk : k < 5) (hs : Bt s) (hh : h < 2 ^ k) (hg : la k s h k = g) : ∀ j, j ≤ k → ((la k s h j : Nat) : Int) = low k h g j
  | 0, _ => (low_zero k hk h hh g (by rw [← hg]; exact la_in hk hs hh k (Nat.le_refl _))).symm
  | j + 1, hj => by
    have hgi : g < 2 ^ k := by rw [← hg]; exact la_in hk hs hh k (Nat.le_refl _)
    rw [low_step k hk h hh g hgi j (by omega), ← la_xor hk hs hh hg (show j < k by omega), ← la_low hk hs hh hg j (by omega)]
    exact Int.toNat_of_nonneg (stp_bit hk (la_in hk hs hh j (by omega)) (show j < k by omega) (hs _ _)).1
/-- each stage keeps lines apart -/
theorem la_inj {k : Nat} {s : Nat → Nat → Int} {h h' : Nat} (hk : k < 5) (hs : Bt s) (hh : h < 2 ^ k) (hh' : h' < 2 ^ k) : ∀ j, j ≤ k → la k s h j = la k s h' j → h = h'
  | 0, _, e => e
  | j + 1, hj, e => by
    refine la_inj hk hs hh hh' j (by omega) ?_
    have i1 := la_in hk hs hh j (by omega)
    have i2 := la_in hk hs hh' j (by omega)
    have jk : j < k := by omega
    have e' : (stp k (la k s h j : Nat) (j + 1) (s j (nwo k (la k s h j) (j + 1)).toNat)).toNat = (stp k (la k s h' j : Nat) (j + 1) (s j (nwo k (la k s h' j) (j + 1)).toNat)).toNat := e
    have n1 : ∀ (l : Nat) (c : Int), l < 2 ^ k → (c = 0 ∨ c = 1) → nwo k (stp k l (j + 1) c).toNat (j + 1) = nwo k l (j + 1) := by
      intro l c hl hc
      rcases hc with rfl | rfl
      · rw [stp_zero k hk l hl j jk, Int.toNat_natCast]
      · exact nwo_stp k hk l hl j jk
    have en : nwo k (la k s h j) (j + 1) = nwo k (la k s h' j) (j + 1) := by
      rw [← n1 _ _ i1 (hs j (nwo k (la k s h j) (j + 1)).toNat), e', n1 _ _ i2 (hs j _)]
    rw [en] at e'
    rcases hs j (nwo k (la k s h' j) (j + 1)).toNat with c | c
    · rw [c, stp_zero k hk _ i1 j jk, stp_zero k hk _ i2 j jk, Int.toNat_natCast, Int.toNat_natCast] at e'
      exact e'
    · rw [c] at e'
      have t1 := stp_two k hk _ i1 j jk
      have t2 := stp_two k hk _ i2 j jk
      rw [e', t2] at t1
      exact (Int.ofNat.inj t1).symm
def crs (k h g j : Nat) : Int := Builtin.bitXor (fg k h (j + 1)) (fg k g (j + 1))
theorem crs_bit {k h g j : Nat} (hk : k < 5) (hh : h < 2 ^ k) (hg : g < 2 ^ k) (hj : j < k) : crs k h g j = 0 ∨ crs k h g j = 1 := by
  unfold crs
  rcases fg_bit k hk h hh j hj with e | e <;> rcases fg_bit k hk g hg j hj with e2 | e2 <;> rw [e, e2] <;> decide
theorem low_nat {k h g j : Nat} (hk : k < 5) (hh : h < 2 ^ k) (hg : g < 2 ^ k) (hj : j ≤ k) : low k h g j = ((low k h g j).toNat : Nat) ∧ (low k h g j).toNat < 2 ^ k := by
  have h1 := lline_in k hk h hh g hg j (by omega)
  rw [← low_is k hk h hh g hg j (by omega)] at h1
  have e : ((2 ^ k : Nat) : Int) = 2 ^ k := by push_cast; rfl
  omega
/-- settings that tell the crossings lead h to g -/
theorem la_by {k : Nat} {s : Nat → Nat → Int} {h g : Nat} (hk : k < 5) (hh : h < 2 ^ k) (hg : g < 2 ^ k)
    (hs : ∀ j, j < k → s j (nwo k (low k h g j).toNat (j + 1)).toNat = crs k h g j) : ∀ j, j ≤ k → ((la k s h j : Nat) : Int) = low k h g j
  | 0, _ => (low_zero k hk h hh g hg).symm
  | j + 1, hj => by
    have ih := la_by hk hh hg hs j (by omega)
    have e1 : la k s h j = (low k h g j).toNat := by omega
    have l1 := low_nat hk hh hg (show j ≤ k by omega)
    have l2 := low_nat hk hh hg hj
    have st := low_step k hk h hh g hg j (by omega)
    show (((stp k (la k s h j : Nat) (j + 1) (s j (nwo k (la k s h j) (j + 1)).toNat)).toNat : Nat) : Int) = _
    rw [e1, hs j (by omega)]
    have e2 : stp k ((low k h g j).toNat : Nat) (j + 1) (crs k h g j) = low k h g (j + 1) := by rw [← l1.1, st] <;> rfl
    rw [e2]
    exact l2.1.symm
theorem la_led {k : Nat} {s : Nat → Nat → Int} {h g : Nat} (hk : k < 5) (hh : h < 2 ^ k) (hg : g < 2 ^ k)
    (hs : ∀ j, j < k → s j (nwo k (low k h g j).toNat (j + 1)).toNat = crs k h g j) : la k s h k = g := by
  have h1 := la_by hk hh hg hs k (Nat.le_refl _)
  rw [low_all k hk h hh g hg] at h1
  exact Int.ofNat.inj h1
/-- two ways by one switch, apart ahead of it and behind it, are crossed alike -/
theorem crs_same {k h g h' g' j : Nat} (hk : k < 5) (hh : h < 2 ^ k) (hg : g < 2 ^ k) (hh' : h' < 2 ^ k) (hg' : g' < 2 ^ k) (hj : j < k)
    (n0 : low k h g j ≠ low k h' g' j) (n1 : low k h g (j + 1) ≠ low k h' g' (j + 1))
    (e : nwo k (low k h g j).toNat (j + 1) = nwo k (low k h' g' j).toNat (j + 1)) : crs k h g j = crs k h' g' j := by
  have l1 := low_nat hk hh hg (show j ≤ k by omega)
  have l2 := low_nat hk hh' hg' (show j ≤ k by omega)
  have s1 := low_step k hk h hh g hg j hj
  have s2 := low_step k hk h' hh' g' hg' j hj
  change _ = stp k (low k h g j) (j + 1) (crs k h g j) at s1
  change _ = stp k (low k h' g' j) (j + 1) (crs k h' g' j) at s2
  rw [l1.1] at s1
  rw [l2.1] at s2
  rcases nwo_two k hk _ l1.2 _ l2.2 j hj with c | c | c
  · exact absurd e c
  · exact absurd (by rw [l1.1, l2.1, c]) n0
  · have t1 := stp_two k hk _ l1.2 j hj
    rw [← c, Int.toNat_natCast] at t1
    rcases crs_bit hk hh hg hj with a | a <;> rcases crs_bit hk hh' hg' hj with b | b
    · rw [a, b]
    · rw [a, stp_zero k hk _ l1.2 j hj] at s1
      rw [b, t1] at s2
      exact absurd (s1.trans s2.symm) n1
    · rw [a, ← c] at s1
      rw [b, stp_zero k hk _ l2.2 j hj] at s2
      exact absurd (s1.trans s2.symm) n1
    · rw [a, b]
theorem pig : ∀ (N : Nat) (f : Nat → Nat), (∀ i, i < N → f i < N) → (∀ i j, i < N → j < N → f i = f j → i = j) → ∀ m, m < N → ∃ i, i < N ∧ f i = m
  | 0, _, _, _, m, hm => absurd hm (Nat.not_lt_zero _)
  | N + 1, f, hf, inj, m, hm => by
    have a1 := hf N (Nat.lt_succ_self _)
    have g1 : ∀ i, i < N → (if f i = N then f N else f i) < N := by
      intro i hi
      have h1 := hf i (by omega)
      split
      · rename_i c
        have : f N ≠ N := fun z => by have := inj i N (by omega) (by omega) (by rw [c, z]); omega
        omega
      · omega
    have g2 : ∀ i j, i < N → j < N → (if f i = N then f N else f i) = (if f j = N then f N else f j) → i = j := by
      intro i j hi hj e
      by_cases c : f i = N <;> by_cases d : f j = N
      · exact inj i j (by omega) (by omega) (by rw [c, d])
      · rw [if_pos c, if_neg d] at e
        have := inj N j (by omega) (by omega) e
        omega
      · rw [if_neg c, if_pos d] at e
        have := inj i N (by omega) (by omega) e
        omega
      · rw [if_neg c, if_neg d] at e
        exact inj i j (by omega) (by omega) e
    by_cases c : m = f N
    · exact ⟨N, Nat.lt_succ_self _, c.symm⟩
    by_cases d : m = N
    · have lt : f N < N := by omega
      obtain ⟨i, hi, e⟩ := pig N _ g1 g2 (f N) lt
      by_cases z : f i = N
      · exact ⟨i, by omega, by omega⟩
      · rw [if_neg z] at e
        have := inj i N (by omega) (by omega) e
        omega
    · obtain ⟨i, hi, e⟩ := pig N _ g1 g2 m (by omega)
      by_cases z : f i = N
      · rw [if_pos z] at e
        exact absurd e.symm c
      · rw [if_neg z] at e
        exact ⟨i, by omega, e⟩
/-- where the ways are apart at a level, each switch behind it has a way -/
theorem sw_onto {k j n : Nat} {g : Nat → Nat} (hk : k < 5) (hj : j < k) (hg : ∀ h, h < 2 ^ k → g h < 2 ^ k)
    (ap : ∀ h h', h < 2 ^ k → h' < 2 ^ k → low k h (g h) j = low k h' (g h') j → h = h') (hn : n < 2 ^ (k - 1)) : ∃ h, h < 2 ^ k ∧ nwo k (low k h (g h) j).toNat (j + 1) = (n : Nat) := by
  obtain ⟨l, hl, e⟩ := nwo_onto k hk j hj n hn
  obtain ⟨h, hh, e2⟩ := pig (2 ^ k) (fun h => (low k h (g h) j).toNat) (fun i hi => (low_nat hk hi (hg i hi) (by omega)).2) (fun a b ha hb e => by
    have l1 := low_nat hk ha (hg a ha) (show j ≤ k by omega)
    have l2 := low_nat hk hb (hg b hb) (show j ≤ k by omega)
    refine ap a b ha hb ?_
    have e' : (low k a (g a) j).toNat = (low k b (g b) j).toNat := e
    rw [l1.1, l2.1, e']) l hl
  exact ⟨h, hh, by rw [show (low k h (g h) j).toNat = l from e2]; exact e⟩
/-! settings (k35): what settings_by writes; wants st14d, st15d -/
/-- ways apart -/
def Ap (k : Nat) (g : Nat → Nat) : Prop := ∀ lv, lv ≤ k → ∀ h h', h < 2 ^ k → h' < 2 ^ k → low k h (g h) lv = low k h' (g h') lv → h = h'
def prs (k : Nat) (g : Nat → Nat) : List (Nat × Nat) := (List.range (2 ^ k)).map fun h => (h, g h)
def Gd (k : Nat) (g : Nat → Nat) : Prop := ∀ h, h < 2 ^ k → g h < 2 ^ k
theorem nodup_of : ∀ {L : List Int}, (∀ x, ¬ Rp L x) → L.Nodup
  | [], _ => List.nodup_nil
  | a :: L, h => by
    rw [List.nodup_cons]
    refine ⟨fun m => h a ?_, nodup_of fun x c => h x ?_⟩
    · unfold Rp
      rw [List.count_cons_self]
      have := List.count_pos_iff.mpr m
      omega
    · unfold Rp at c ⊢
      rw [List.count_cons]
      omega
theorem nodup_inj {f : Nat → Int} {N : Nat} (nd : ((List.range N).map f).Nodup) : ∀ h h', h < N → h' < N → f h = f h' → h = h' := by
  rw [List.nodup_iff_pairwise_ne, List.pairwise_iff_getElem] at nd
  have lt : ∀ h h', h < h' → h' < N → f h ≠ f h' := fun h h' a b => by
    have := nd h h' (by rw [List.length_map, List.length_range]; omega) (by rw [List.length_map, List.length_range]; omega) a
    rwa [List.getElem_map, List.getElem_map, List.getElem_range, List.getElem_range] at this
  intro h h' a b e
  rcases Nat.lt_trichotomy h h' with c | c | c
  · exact absurd e (lt _ _ c b)
  · exact c
  · exact absurd e.symm (lt _ _ c a)
theorem inj_nodup {f : Nat → Int} {N : Nat} (i : ∀ h h', h < N → h' < N → f h = f h' → h = h') : ((List.range N).map f).Nodup := by
  rw [List.nodup_iff_pairwise_ne, List.pairwise_iff_getElem]
  intro a b ha hb c e
  rw [List.length_map, List.length_range] at ha hb
  rw [List.getElem_map, List.getElem_map, List.getElem_range, List.getElem_range] at e
  have := i a b ha hb e
  omega
theorem lns_prs {k lv : Nat} {g : Nat → Nat} (hk : k < 5) (hg : Gd k g) (hl : lv ≤ k) : lns k (prs k g) lv = (List.range (2 ^ k)).map fun h => low k h (g h) lv := by
  unfold lns prs
  rw [List.map_map]
  refine List.map_congr_left fun h hh => ?_
  have hh := List.mem_range.mp hh
  exact (low_is k hk h hh (g h) (hg h hh) lv (by omega)).symm
theorem ap_of {k : Nat} {g : Nat → Nat} (hk : k < 5) (hg : Gd k g) (no : Fst (lns k (prs k g)) k none) : Ap k g := by
  intro lv hl
  have nd := nodup_of (no lv hl)
  rw [lns_prs hk hg hl] at nd
  exact nodup_inj nd
theorem no_of {k : Nat} {g : Nat → Nat} (hk : k < 5) (hg : Gd k g) (ap : Ap k g) : Fst (lns k (prs k g)) k none := by
  intro lv hl x c
  have nd := inj_nodup (ap lv hl)
  rw [← lns_prs hk hg hl] at nd
  have := nodup_count x nd
  unfold Rp at c
  omega
theorem la_ap {k : Nat} {s : Nat → Nat → Int} (hk : k < 5) (hs : Bt s) : Ap k (fun h => la k s h k) := by
  intro lv hl h h' hh hh' e
  have e : low k h (la k s h k) lv = low k h' (la k s h' k) lv := e
  have e1 := la_low hk hs hh (g := la k s h k) rfl lv hl
  have e2 := la_low hk hs hh' (g := la k s h' k) rfl lv hl
  exact la_inj hk hs hh hh' lv hl (by omega)
theorem ap_cong {k : Nat} {g g' : Nat → Nat} (e : ∀ h, h < 2 ^ k → g h = g' h) (ap : Ap k g) : Ap k g' := fun lv hl h h' hh hh' c => ap lv hl h h' hh hh' (by rw [e h hh, e h' hh']; exact c)
def row (k : Nat) (s : Nat → Nat → Int) (j : Nat) : List Int := (List.range (2 ^ (k - 1))).map (s j)
/-- settings that lead alike are alike -/
theorem se_uniq {k : Nat} {s s' : Nat → Nat → Int} {g : Nat → Nat} (hk : k < 5) (hs : Bt s) (hs' : Bt s') (hg : ∀ h, h < 2 ^ k → la k s h k = g h) (hg' : ∀ h, h < 2 ^ k → la k s' h k = g h) : ∀ j, j < k → row k s j = row k s' j := by
  intro j hj
  unfold row
  refine List.map_congr_left fun n hn => ?_
  have hn := List.mem_range.mp hn
  have gd : Gd k g := fun h hh => by rw [← hg h hh]; exact la_in hk hs hh k (Nat.le_refl _)
  have ap : Ap k g := ap_cong hg (la_ap hk hs)
  obtain ⟨h, hh, e⟩ := sw_onto (g := g) hk hj gd (fun h h' a b e => ap j (by omega) h h' a b e) hn
  have a1 := la_xor hk hs hh (hg h hh) hj
  have a2 := la_xor hk hs' hh (hg' h hh) hj
  have l1 := la_low hk hs hh (hg h hh) j (by omega)
  have l2 := la_low hk hs' hh (hg' h hh) j (by omega)
  have e1 : la k s h j = (low k h (g h) j).toNat := by omega
  have e2 : la k s' h j = (low k h (g h) j).toNat := by omega
  rw [e1, e, Int.toNat_natCast] at a1
  rw [e2, e, Int.toNat_natCast] at a2
  rw [a1, a2]
def wr (c : Nat → Nat → Int) (j0 n0 : Nat) (v : Int) : Nat → Nat → Int := fun j n => if j = j0 ∧ n = n0 then v else c j n
theorem wr_bit {c : Nat → Nat → Int} {j n : Nat} {v : Int} (h : Bt c) (hv : v = 0 ∨ v = 1) : Bt (wr c j n v) := fun i m => by
  unfold wr
  split
  · exact hv
  · exact h i m
theorem row_wr {k : Nat} {c : Nat → Nat → Int} {j n : Nat} {v : Int} (hn : n < 2 ^ (k - 1)) : row k (wr c j n v) j = (row k c j).set n v := by
  refine List.ext_getElem? fun i => ?_
  unfold row
  rw [List.getElem?_set, List.length_map, List.length_range, List.getElem?_map, List.getElem?_map]
  by_cases e : n = i
  · subst e
    rw [if_pos rfl, if_pos hn, List.getElem?_range hn]
    show some (wr c j n v j n) = _
    unfold wr
    rw [if_pos ⟨rfl, rfl⟩]
  · rw [if_neg e]
    by_cases l : i < 2 ^ (k - 1)
    · rw [List.getElem?_range l]
      show some (wr c j n v j i) = some (c j i)
      unfold wr
      rw [if_neg (fun z => e z.2.symm)]
    · rw [List.getElem?_eq_none (by rw [List.length_range]; omega)] <;> rfl
theorem row_wr_ne {k : Nat} {c : Nat → Nat → Int} {j i n : Nat} {v : Int} (h : i ≠ j) : row k (wr c j n v) i = row k c i := by
  unfold row
  refine List.map_congr_left fun m _ => ?_
  unfold wr
  rw [if_neg (fun z => h z.1)]
def Wd (k : Nat) (g : Nat → Nat) (h j : Nat) (c : Nat → Nat → Int) : Prop := ∀ h' i, (h' < h ∧ i < k ∨ h' = h ∧ i < j) → c i (nwo k (low k h' (g h') i).toNat (i + 1)).toNat = crs k h' (g h') i
theorem Wd.step {k : Nat} {g : Nat → Nat} {h j : Nat} {c : Nat → Nat → Int} (hk : k < 5) (hg : Gd k g) (ap : Ap k g) (hh : h < 2 ^ k) (hj : j < k) (w : Wd k g h j c) : Wd k g h (j + 1) (wr c j (nwo k (low k h (g h) j).toNat (j + 1)).toNat (crs k h (g h) j)) := by
  intro h' i hi
  unfold wr
  split
  · rename_i e
    obtain ⟨rfl, e⟩ := e
    by_cases d : h' = h
    · rw [d]
    · have hh' : h' < 2 ^ k := by omega
      have l1 := low_nat hk hh (hg h hh) (show i ≤ k by omega)
      have l2 := low_nat hk hh' (hg h' hh') (show i ≤ k by omega)
      have n1 := nwo_in k hk _ l1.2 i hj
      have n2 := nwo_in k hk _ l2.2 i hj
      exact crs_same hk hh (hg h hh) hh' (hg h' hh') hj (fun z => d (ap i (by omega) h' h hh' hh z.symm)) (fun z => d (ap (i + 1) (by omega) h' h hh' hh z.symm)) (by omega)
  · rename_i e
    refine w h' i ?_
    rcases hi with a | ⟨rfl, b⟩
    · exact .inl a
    · refine .inr ⟨rfl, ?_⟩
      have : i ≠ j := fun z => e (by subst z; exact ⟨rfl, rfl⟩)
      omega
theorem Wd.next {k : Nat} {g : Nat → Nat} {h : Nat} {c : Nat → Nat → Int} (w : Wd k g h k c) : Wd k g (h + 1) 0 c := fun h' i hi => w h' i (by omega)
theorem Wd.zero {k : Nat} {g : Nat → Nat} {c : Nat → Nat → Int} : Wd k g 0 0 c := fun h' i hi => by omega
theorem Wd.fin {k : Nat} {g : Nat → Nat} {c : Nat → Nat → Int} (hk : k < 5) (hg : Gd k g) (w : Wd k g (2 ^ k) 0 c) : ∀ h, h < 2 ^ k → la k c h k = g h := fun h hh => la_led hk hh (hg h hh) fun j hj => w h j (.inl ⟨hh, hj⟩)
section
variable {P : Program} {w : World} {K : PySem.W.Frag} {mg : Str → Option Value} {base : Heap} (B : Bl K mg)
include B
/-! ### the program: nets -/
def spIsWhole : Sp := fun vs H Q _ => ∃ i, vs = [.int i] ∧ Q (.bl true) H
theorem k_is_whole (D : Df K mg "is_whole" s_is_whole ["thing"]) : Dn P w K mg base 1 "is_whole" ["thing"] spIsWhole := by
  refine D.ok fun f fd F => okG0 F sc_is_whole (fun vs H Q E h => ?_) (fun cdv A outer s H vs Q E hr h => ⟨_, (pss_one (ps_ret (pe_and (pe_callB (kk (K := K) (F := rIsi) (P := CallR _ _) call_isi) (by rfl) B.isinstance_ (by decide +kernel) (pa_cons (pv 0) (pa_cons (pe_bltn (v := .ty "int") (u := .type "int") (by rfl) B.int_ (by decide +kernel) rfl) pa_nil))) (pe_one (pe_not (pe_callB (kk (K := K) (F := rIsi) (P := CallR _ _) call_isi) (by rfl) B.isinstance_ (by decide +kernel) (pa_cons (pv 0) (pa_cons (pe_bltn (v := .ty "bool") (u := .type "bool") (by rfl) B.bool_ (by decide +kernel) rfl) pa_nil)))))))), ?_⟩)
  · obtain ⟨i, rfl, _⟩ := h; rfl
  · obtain ⟨i, rfl, q⟩ := h
    refine ⟨_, rfl, _, _, _, _, _, rfl, .ty _, .base (.int _), kit_ty (b := "int") (r := true) (by decide +kernel), _, rfl, iteT ?_⟩
    refine ⟨_, rfl, _, _, _, _, _, rfl, .ty _, .base (.int _), kit_ty (b := "bool") (r := false) (by decide +kernel), _, rfl, ?_⟩
    exact q
def spIsWithin : Sp := fun vs H Q _ => ∃ i a b : Int, vs = [.int i, .int a, .int b] ∧ a ≤ i ∧ i ≤ b ∧ Q (.bl true) H
theorem k_is_within (D : Df K mg "is_within" s_is_within ["thing", "least", "most"]) (D_is_whole : Dn P w K mg base 1 "is_whole" ["thing"] spIsWhole) : Dn P w K mg base 2 "is_within" ["thing", "least", "most"] spIsWithin := by
  refine D.ok fun f fd F => okG0 F sc_is_within (fun vs H Q E h => ?_) (fun cdv A outer s H vs Q E hr h => ⟨_, (pss_one (ps_ret (pe_and (pe_cD D_is_whole (hr.less (by decide)) rfl (pa_cons (pv 0) pa_nil)) (pe_one (pe_chain op_le op_le (pv 1) (pv 0) (pv 2)))))), ?_⟩)
  · obtain ⟨i, a, b, rfl, _⟩ := h; rfl
  · obtain ⟨i, a, b, rfl, h1, h2, q⟩ := h
    refine ⟨_, rfl, i, rfl, _, rfl, iteT ?_⟩
    refine ⟨_, rfl, _, rfl, _, _, rfl, rfl, _, rfl, ifT (decide_eq_true h1) ⟨_, rfl, _, _, rfl, rfl, ?_⟩⟩
    exact (show Q (.bl (decide (i ≤ b))) H by rw [decide_eq_true h2]; exact q)
def spWantNet : Sp := fun vs H Q _ => ∃ i d : Int, vs = [.int i, .int d] ∧ 0 ≤ i ∧ i ≤ d ∧ Q .non H
theorem k_want_net (D : Dfd K mg "want_net" s_want_net ["k", "deepest"] [.int 4]) (D_is_within : Dn P w K mg base 2 "is_within" ["thing", "least", "most"] spIsWithin) : DnD P w K mg base 3 "want_net" ["k", "deepest"] [.int 4] spWantNet := by
  refine D.ok fun f fd F => okG0A F sc_want_net (fun vs H Q E h => ?_) (fun cdv A outer s H vs Q E hr h => ⟨_, (pss_one (ps_if (pt_not (pt_val (pe_cD D_is_within (hr.less (by decide)) rfl (pa_cons (pv 0) (pa_cons pe_int (pa_cons (pv 1) pa_nil))))))
     (pss_one ps_never)
     pss_nil)), ?_⟩)
  · obtain ⟨i, d, rfl, _⟩ := h; rfl
  · obtain ⟨i, d, rfl, h1, h2, q⟩ := h
    exact ⟨_, rfl, _, rfl, i, 0, d, rfl, h1, h2, _, rfl, iteF q⟩
def spIsLine : Sp := fun vs H Q _ => ∃ k i : Nat, vs = [.int k, .int i] ∧ k ≤ 4 ∧ i < 2 ^ k ∧ Q (.bl true) H
theorem k_is_line (D : Df K mg "is_line" s_is_line ["k", "thing"]) (D_is_whole : Dn P w K mg base 1 "is_whole" ["thing"] spIsWhole) : Dn P w K mg base 2 "is_line" ["k", "thing"] spIsLine := by
  refine D.ok fun f fd F => okG0 F sc_is_line (fun vs H Q E h => ?_) (fun cdv A outer s H vs Q E hr h => ⟨_, (pss_one (ps_ret (pe_and (pe_cD D_is_whole (hr.less (by decide)) rfl (pa_cons (pv 1) pa_nil)) (pe_one (pe_chain op_le op_lt pe_int (pv 1) (pe_op op_shlW pe_int (pv 0))))))), ?_⟩)
  · obtain ⟨k, i, rfl, _⟩ := h; rfl
  · obtain ⟨k, i, rfl, h1, h2, q⟩ := h
    refine ⟨_, rfl, i, rfl, _, rfl, iteT ?_⟩
    refine ⟨_, rfl, _, _, rfl, rfl, _, rfl, ifT (decide_eq_true (by omega)) ⟨_, rfl, _, _, rfl, rfl, shl_ok (by omega), _, _, rfl, rfl, ?_⟩⟩
    have h3 : (i : Int) < 1 * 2 ^ ((k : Int)).toNat := by
      rw [Int.toNat_natCast, Int.one_mul]
      exact_mod_cast h2
    exact (show Q (.bl (decide ((i : Int) < 1 * 2 ^ ((k : Int)).toNat))) H by rw [decide_eq_true h3]; exact q)
def spWantLine : Sp := fun vs H Q _ => ∃ k i : Nat, vs = [.int k, .int i] ∧ k ≤ 4 ∧ i < 2 ^ k ∧ Q .non H
theorem k_want_hand (D : Df K mg "want_hand" s_want_hand ["k", "thing"]) (D_is_line : Dn P w K mg base 2 "is_line" ["k", "thing"] spIsLine) : Dn P w K mg base 3 "want_hand" ["k", "thing"] spWantLine := by
  refine D.ok fun f fd F => okG0 F sc_want_hand (fun vs H Q E h => ?_) (fun cdv A outer s H vs Q E hr h => ⟨_, (pss_one (ps_if (pt_not (pt_val (pe_cD D_is_line (hr.less (by decide)) rfl (pa_cons (pv 0) (pa_cons (pv 1) pa_nil)))))
     (pss_one ps_never)
     pss_nil)), ?_⟩)
  · obtain ⟨k, i, rfl, _⟩ := h; rfl
  · obtain ⟨k, i, rfl, h1, h2, q⟩ := h
    exact ⟨_, rfl, _, rfl, k, i, rfl, h1, h2, _, rfl, iteF q⟩
theorem k_want_side (D : Df K mg "want_side" s_want_side ["k", "thing"]) (D_is_line : Dn P w K mg base 2 "is_line" ["k", "thing"] spIsLine) : Dn P w K mg base 3 "want_side" ["k", "thing"] spWantLine := by
  refine D.ok fun f fd F => okG0 F sc_want_side (fun vs H Q E h => ?_) (fun cdv A outer s H vs Q E hr h => ⟨_, (pss_one (ps_if (pt_not (pt_val (pe_cD D_is_line (hr.less (by decide)) rfl (pa_cons (pv 0) (pa_cons (pv 1) pa_nil)))))
     (pss_one ps_never)
     pss_nil)), ?_⟩)
  · obtain ⟨k, i, rfl, _⟩ := h; rfl
  · obtain ⟨k, i, rfl, h1, h2, q⟩ := h
    exact ⟨_, rfl, _, rfl, k, i, rfl, h1, h2, _, rfl, iteF q⟩
def spLow : Sp := fun vs H Q _ => ∃ k h g lv : Nat, vs = [.int k, .int h, .int g, .int lv] ∧ k ≤ 4 ∧ lv ≤ k ∧ g < 2 ^ k ∧ Q (.int (low k h g lv)) H
theorem k_line_on_way (D : Df K mg "line_on_way" s_line_on_way ["k", "hand", "goal", "level"]) : Dn P w K mg base 1 "line_on_way" ["k", "hand", "goal", "level"] spLow := by
  refine D.ok fun f fd F => okG0 F sc_line_on_way (fun vs H Q E h => ?_) (fun cdv A outer s H vs Q E hr h => ⟨_, (pss_cons (ps_set (i := 4) sc_line_on_way.nd rfl (Or.inl rfl) (pe_op op_sub (pv 0) (pv 3)))
    (pss_one (ps_ret (pe_op op_or (pe_op op_shlW (pe_op op_shr (pv 2) (pv 4)) (pv 4)) (pe_op op_and (pv 1) (pe_op op_sub (pe_op op_shlW pe_int (pv 4)) pe_int)))))), ?_⟩)
  · obtain ⟨k, x, g, lv, rfl, _⟩ := h; rfl
  · obtain ⟨k, x, g, lv, rfl, h1, h2, h3, q⟩ := h
    have h4 := pow16 h1 h3
    refine ⟨_, rfl, _, rfl, _, _, rfl, rfl, ?_⟩
    refine ⟨_, rfl, _, rfl, _, _, rfl, rfl, by omega, _, rfl, _, _, rfl, rfl, shl_small (div_small (Nat.lt_of_lt_of_le h4 (by decide))) (by omega) (by omega), ?_⟩
    refine ⟨_, rfl, _, rfl, _, _, rfl, rfl, shl_small (by decide) (by omega) (by omega), _, _, rfl, rfl, _, _, rfl, rfl, _, _, rfl, rfl, ?_⟩
    exact q
def spNwo : Sp := fun vs H Q _ => ∃ k l st : Nat, vs = [.int k, .int l, .int st] ∧ k ≤ 4 ∧ st ≤ k ∧ l < 2 ^ k ∧ Q (.int (nwo k l st)) H
theorem k_number_without (D : Df K mg "number_without" s_number_without ["k", "line", "stage"]) : Dn P w K mg base 1 "number_without" ["k", "line", "stage"] spNwo := by
  refine D.ok fun f fd F => okG0 F sc_number_without (fun vs H Q E h => ?_) (fun cdv A outer s H vs Q E hr h => ⟨_, (pss_cons (ps_set (i := 3) sc_number_without.nd rfl (Or.inl rfl) (pe_op op_sub (pv 0) (pv 2)))
    (pss_one (ps_ret (pe_op op_or (pe_op op_shlW (pe_op op_shr (pv 1) (pe_op op_add (pv 3) pe_int)) (pv 3)) (pe_op op_and (pv 1) (pe_op op_sub (pe_op op_shlW pe_int (pv 3)) pe_int)))))), ?_⟩)
  · obtain ⟨k, l, st, rfl, _⟩ := h; rfl
  · obtain ⟨k, l, st, rfl, h1, h2, h3, q⟩ := h
    have h4 := pow16 h1 h3
    refine ⟨_, rfl, _, rfl, _, _, rfl, rfl, ?_⟩
    refine ⟨_, rfl, _, rfl, _, _, rfl, rfl, _, _, rfl, rfl, by omega, _, rfl, _, _, rfl, rfl, shl_small (div_small (Nat.lt_of_lt_of_le h4 (by decide))) (by omega) (by omega), ?_⟩
    refine ⟨_, rfl, _, rfl, _, _, rfl, rfl, shl_small (by decide) (by omega) (by omega), _, _, rfl, rfl, _, _, rfl, rfl, _, _, rfl, rfl, ?_⟩
    exact q
def spWay : Sp := fun vs H Q _ => ∃ k h g : Nat, vs = [.int k, .int h, .int g] ∧ k ≤ 4 ∧ h < 2 ^ k ∧ g < 2 ^ k ∧ ∀ T H', Same H H' → H' T = some (.tup (((List.range (k + 1)).map (low k h g)).map V.int)) → Q (.ref T) H'
theorem k_way (D : Df K mg "way" s_way ["k", "hand", "side"]) (D_want_net : DnD P w K mg base 3 "want_net" ["k", "deepest"] [.int 4] spWantNet) (D_want_hand : Dn P w K mg base 3 "want_hand" ["k", "thing"] spWantLine) (D_want_side : Dn P w K mg base 3 "want_side" ["k", "thing"] spWantLine) (D_line_on_way : Dn P w K mg base 1 "line_on_way" ["k", "hand", "goal", "level"] spLow) : Dn P w K mg base 4 "way" ["k", "hand", "side"] spWay := by
  refine D.ok fun f fd F => okG0 F sc_way (fun vs H Q E h => ?_) (fun cdv A outer s H vs Q E hr h => ⟨_, (pss_cons (ps_expr (pe_cDd D_want_net (hr.less (by decide)) rfl (pa_cons (pv 0) pa_nil)))
    (pss_cons (ps_expr (pe_cD D_want_hand (hr.less (by decide)) rfl (pa_cons (pv 0) (pa_cons (pv 1) pa_nil))))
    (pss_cons (ps_expr (pe_cD D_want_side (hr.less (by decide)) rfl (pa_cons (pv 0) (pa_cons (pv 2) pa_nil))))
    (pss_one (ps_ret (pe_callTy (tupOfK (K := K)) (by rfl) B.tuple_ (by decide +kernel) (pa_cons (pe_lc (own := [("level", 3)]) (g := gName 3) (tt := tYes) rfl sc_way.nd (pi_range1 (by rfl) B.range_ (pa_cons (pe_op op_add (pv 0) pe_int) pa_nil)) (blkOk_by (own := [("level", 3)]) (N := ["k", "hand", "side", "level"]) (sc := defScope s_way) (by decide +kernel)) (fun _ _ _ _ _ => (pg_name (i := 3) sc_way.nd rfl (Or.inl rfl))) (fun _ _ _ _ _ => pts_nil) (fun _ _ _ _ _ => (pe_cD D_line_on_way (hr.less (by decide)) rfl (pa_cons (pv 0) (pa_cons (pv 1) (pa_cons (pv 2) (pa_cons (pv 3) pa_nil))))))) pa_nil))))))), ?_⟩)
  · obtain ⟨k, x, g, rfl, _⟩ := h; rfl
  · obtain ⟨k, x, g, rfl, h1, h2, h3, q⟩ := h
    refine ⟨_, rfl, (k : Int), 4, rfl, by omega, by omega, _, rfl, _, rfl, k, x, rfl, h1, h2, _, rfl, _, rfl, k, g, rfl, h1, h3, ?_⟩
    refine ⟨_, rfl, _, _, rfl, rfl, _, rfl, by omega, by omega, fun D hD => ?_⟩
    have e : ((k : Int) + 1).toNat = k + 1 := by omega
    rw [e]
    refine lc_range (lo := 0) (n := k + 1) (fun i H2 => Same H H2 ∧ H2 D = some (.lst (((List.range i).map (low k x g)).map V.int))) ⟨same_new hD _, upd_same⟩ ?_ ?_
    · rintro i H2 hi ⟨S2, hD2⟩
      refine ⟨rfl, _, rfl, _, rfl, _, rfl, _, rfl, k, x, g, i, by show [V.int (k : Int), V.int x, V.int g, V.int (0 + (i : Int))] = _; rw [Int.zero_add], h1, by omega, h3, ?_⟩
      refine ⟨_, hD2, small1000 (by rw [List.length_map, List.length_map, List.length_range]; omega), but_same hD S2 But.upd, ?_⟩
      rw [upd_same, List.range_succ, List.map_append, List.map_append] <;> rfl
    · rintro H2 ⟨S2, hD2⟩
      refine ⟨D, _, rfl, .inl ⟨SqL.of hD2, fun T hT => q T _ (S2.trans (same_new hT _)) upd_same⟩⟩
def spSwitches : Sp := fun vs H Q _ => ∃ k h g : Nat, vs = [.int k, .int h, .int g] ∧ k ≤ 4 ∧ h < 2 ^ k ∧ g < 2 ^ k ∧ ∀ T H', Same H H' → SwAt H' T k h g → Q (.ref T) H'
theorem k_switches (D : Df K mg "switches" s_switches ["k", "hand", "side"]) (D_way : Dn P w K mg base 4 "way" ["k", "hand", "side"] spWay) (D_number_without : Dn P w K mg base 1 "number_without" ["k", "line", "stage"] spNwo) : Dn P w K mg base 5 "switches" ["k", "hand", "side"] spSwitches := by
  refine D.ok fun f fd F => okG0 F sc_switches (fun vs H Q E h => ?_) (fun cdv A outer s H vs Q E hr h => ⟨_, (pss_cons (ps_set (i := 3) sc_switches.nd rfl (Or.inr rfl) (pe_cD D_way (hr.less (by decide)) rfl (pa_cons (pv 0) (pa_cons (pv 1) (pa_cons (pv 2) pa_nil)))))
    (pss_one (ps_ret (pe_callTy (tupOfK (K := K)) (by rfl) B.tuple_ (by decide +kernel) (pa_cons (pe_lc (own := [("stage", 4)]) (g := gName 4) (tt := tYes) rfl sc_switches.nd (pi_range2 (by rfl) B.range_ (pa_cons pe_int (pa_cons (pe_op op_add (pv 0) pe_int) pa_nil))) (blkOk_by (own := [("stage", 4)]) (N := ["k", "hand", "side", "lines", "stage"]) (sc := defScope s_switches) (by decide +kernel)) (fun _ _ _ _ _ => (pg_name (i := 4) sc_switches.nd rfl (Or.inl rfl))) (fun _ _ _ _ _ => pts_nil) (fun _ _ _ _ _ => (pe_tup (pa_cons (pv 4) (pa_cons (pe_cD D_number_without (hr.less (by decide)) rfl (pa_cons (pv 0) (pa_cons (pe_ix (kk (K := K) (F := rIxT) (P := IxR _) ix_tup) (pv 3) (pe_op op_sub (pv 4) pe_int) (fun _ _ => rfl)) (pa_cons (pv 4) pa_nil)))) pa_nil))))) pa_nil))))), ?_⟩)
  · obtain ⟨k, x, g, rfl, _⟩ := h; rfl
  · obtain ⟨k, x, g, rfl, h1, h2, h3, q⟩ := h
    refine ⟨_, rfl, _, rfl, _, rfl, k, x, g, rfl, h1, h2, h3, fun L H1 S1 hL => ?_⟩
    refine ⟨_, rfl, _, _, rfl, rfl, _, _, rfl, ⟨by decide, by decide, by omega, by omega⟩, fun D hD => ?_⟩
    have e : ((k : Int) + 1 - 1).toNat = k := by omega
    rw [e]
    refine lc_range (lo := 1) (n := k) (fun i H2 => ∃ as : List Addr, Same H1 H2 ∧ H2 D = some (.lst (as.map V.ref)) ∧ as.length = i ∧ ∀ j a, as[j]? = some a → H2 a = some (.tup [.int ((j + 1 : Nat) : Int), .int (nwo k (lline k x g j).toNat (j + 1))])) ⟨[], same_new hD _, upd_same, rfl, fun j a h => by simp at h⟩ ?_ ?_
    · rintro i H2 hi ⟨as, S2, hD2, hl, has⟩
      obtain ⟨l1, l2⟩ := lline_in k (by omega) x h2 g h3 i (by omega)
      have l3 := low_is k (by omega) x h2 g h3 i (by omega)
      have l4 : lline k x g i = ((lline k x g i).toNat : Int) := by omega
      have l5 : (lline k x g i).toNat < 2 ^ k := by
        have : ((2 ^ k : Nat) : Int) = 2 ^ k := by push_cast; rfl
        omega
      refine ⟨rfl, _, rfl, _, rfl, _, rfl, _, rfl, _, _, rfl, rfl, L, _, _, _, rfl, rfl, SqT.of (S2 _ _ hL), at_of (j := i) (by omega) (by rw [List.getElem?_map, List.getElem?_map, List.getElem?_range (by omega)] <;> rfl), _, rfl, k, (lline k x g i).toNat, i + 1, ?_, h1, by omega, l5, sz, fun a ha => ?_⟩
      · show [V.int (k : Int), V.int (low k x g i), V.int (1 + (i : Int))] = _
        rw [l3, l4, show (1 : Int) + i = ((i + 1 : Nat) : Int) by omega] <;> rfl
      · have S3 := same_new ha (.tup [.int (1 + (i : Int)), .int (nwo k (lline k x g i).toNat (i + 1))])
        refine ⟨_, S3 _ _ hD2, small1000 (by rw [List.length_map]; omega), as ++ [a], but_same hD (S2.trans S3) But.upd, by rw [upd_same, List.map_append] <;> rfl, by rw [List.length_append, hl] <;> rfl, fun j b hj => ?_⟩
        have naD : a ≠ D := (ne_of_none hD2 ha).symm
        by_cases c : j < i
        · rw [List.getElem?_append_left (by omega)] at hj
          have h5 := S3 _ _ (has j b hj)
          rw [upd_ne (ne_of h5 (S3 _ _ hD2) (by intro z; cases z))]
          exact h5
        · have hj2 := (List.getElem?_eq_some_iff.mp hj).1
          rw [List.length_append] at hj2
          have hj3 : j < as.length + 1 := hj2
          have : j = i := by omega
          subst this
          rw [List.getElem?_append_right (by omega), hl, Nat.sub_self] at hj
          cases (Option.some.inj hj)
          rw [upd_ne naD, upd_same, show (1 : Int) + j = ((j + 1 : Nat) : Int) by omega]
    · rintro H2 ⟨as, S2, hD2, hl, has⟩
      refine ⟨D, _, rfl, .inl ⟨SqL.of hD2, fun T hT => q T _ (S1.trans (S2.trans (same_new hT _))) ⟨as, upd_same, hl, fun j a h => (same_new hT _) _ _ (has j a h)⟩⟩⟩
def spRich (K : PySem.W.Frag) : Sp := fun vs H Q _ => ∃ (c : Int) (tn : Nat), vs = [.int c, .int tn] ∧ tn ≤ 100000 ∧ ∀ n H', Same H H' → 0 ≤ n → Q (.int n) H'
theorem k__law_rich (D : Df K mg "_law_rich" s__law_rich ["_law_cell", "_law_turn"]) : Dn P w K mg base 1 "_law_rich" ["_law_cell", "_law_turn"] (spRich K) := by
  refine D.ok fun f fd F => okG0 F sc__law_rich (fun vs H Q E h => ?_) (fun cdv A outer s H vs Q E hr h => ⟨_, (pss_cons (ps_set (i := 2) sc__law_rich.nd rfl (Or.inl rfl) pe_int)
    (pss_cons (ps_for PassesOwn.never rfl (kk (K := K) (F := fun K => iEnumT K _) (P := PI _ _ _) (pi_enumT (by rfl) B.enumerate_ (pa_cons (pe_tup (pa_cons pe_int (pa_cons pe_int (pa_cons pe_int (pa_cons pe_int (pa_cons pe_int (pa_cons pe_int pa_nil))))))) pa_nil))) (kk (K := K) (F := fun K => gTup K 2 _) (P := PG _ _) (pg_tup rfl (pgs_cons (pg_name (i := 3) sc__law_rich.nd rfl (Or.inl rfl)) (pgs_cons (pg_name (i := 4) sc__law_rich.nd rfl (Or.inl rfl)) pgs_nil))))
      (pss_cons (ps_set (i := 5) sc__law_rich.nd rfl (Or.inl rfl) (pe_op op_mod (pe_op op_mulX (pe_op op_add (pe_op op_mod (pe_callB call_abs (by rfl) B.abs_ (by decide +kernel) (pa_cons (pv 0) pa_nil)) (pv 4)) pe_int) (pe_op op_add (pe_op op_add (pe_op op_mulX pe_int (pv 1)) (pe_op op_mulX pe_int (pv 3))) pe_int)) (pv 4)))
      (pss_one (ps_set (i := 2) sc__law_rich.nd rfl (Or.inl rfl) (pe_op op_add (pe_op op_mulX (pv 2) (pv 4)) (pe_op op_mod (pe_op op_add (pe_op op_add (pe_op op_pow (pv 5) pe_int) (pe_op op_mulX pe_int (pv 5))) (pv 3)) (pv 4)))))))
    (pss_one (ps_ret (pv 2))))), ?_⟩)
  · obtain ⟨c, tn, rfl, _⟩ := h; rfl
  · obtain ⟨c, tn, rfl, ht, q⟩ := h
    refine ⟨sz, fun t ht2 => ⟨t, _, rfl, SqT.of upd_same, ?_⟩⟩
    have S1 := same_new ht2 (.tup [.int 2147483647, .int 2147483629, .int 2147483587, .int 2147483579, .int 2147483563, .int 2147483549])
    refine for_enumT (K := K) (a := t) (xs := [.int 2147483647, .int 2147483629, .int 2147483587, .int 2147483579, .int 2147483563, .int 2147483549]) (fun i σ H2 => ∃ (f : Int) (v3 v4 v5 : Option V), σ = [some (.int c), some (.int tn), some (.int f), v3, v4, v5] ∧ Same H H2 ∧ H2 t = some (.tup [.int 2147483647, .int 2147483629, .int 2147483587, .int 2147483579, .int 2147483563, .int 2147483549]) ∧ 0 ≤ f ∧ f < 2 ^ (32 * i + 1)) ⟨1, none, none, none, rfl, S1, upd_same, by decide, by decide⟩ (fun i σ H2 _ h => by obtain ⟨_, _, _, _, _, _, h2, _⟩ := h; exact SqT.of h2) ?_ ?_
    · rintro i y T σ H2 hi ⟨f, v3, v4, v5, rfl, S2, ht3, f0, f1⟩ hT
      obtain ⟨z, hz, z0, z1⟩ := primes6 i (by have := (List.getElem?_eq_some_iff.mp hi).1; exact this)
      rw [hz] at hi
      cases (Option.some.inj hi)
      have hi6 : i < 6 := (List.getElem?_eq_some_iff.mp hz).1
      have f2 : f < 2 ^ 200 := Int.lt_of_lt_of_le f1 ((by decide : ∀ i, i < 6 → (2 : Int) ^ (32 * i + 1) ≤ 2 ^ 200) i hi6)
      have m1 := Int.emod_nonneg (if c < 0 then -c else c) (by omega : z ≠ 0)
      have m2 := Int.emod_lt_of_pos (if c < 0 then -c else c) (by omega : 0 < z)
      have S3 := same_new hT (.tup [.int i, .int z])
      refine ⟨T, _, rfl, SqT.of upd_same, rfl, _, _, rfl, _, _, rfl, rfl, ?_⟩
      refine ⟨_, rfl, _, rfl, _, rfl, _, _, rfl, rfl, by omega, _, _, rfl, rfl, ?_⟩
      refine ⟨_, rfl, _, _, rfl, rfl, mulx 3 20 (by decide) (by omega), _, rfl, _, _, rfl, rfl, mulx 20 3 (by decide) (by omega), _, _, rfl, rfl, _, _, rfl, rfl, _, _, rfl, rfl, mulx 33 30 (by omega) (by omega), _, rfl, _, _, rfl, rfl, by omega, ?_⟩
      have g1 := Int.emod_nonneg (((if c < 0 then -c else c) % z + 1) * (7 * (tn : Int) + 1000003 * (i : Int) + 68)) (by omega : z ≠ 0)
      have g2 := Int.emod_lt_of_pos (((if c < 0 then -c else c) % z + 1) * (7 * (tn : Int) + 1000003 * (i : Int) + 68)) (by omega : 0 < z)
      obtain ⟨sd, hsd⟩ : ∃ sd : Int, sd = (((if c < 0 then -c else c) % z + 1) * (7 * (tn : Int) + 1000003 * (i : Int) + 68)) % z := ⟨_, rfl⟩
      rw [← hsd] at g1 g2
      refine ⟨_, rfl, _, rfl, _, _, rfl, rfl, mulx 200 32 (by omega) (by omega), _, rfl, _, _, rfl, rfl, ⟨by decide, by decide, by omega⟩, _, rfl, _, _, rfl, rfl, mulx 16 32 (by decide) (by omega), _, _, rfl, rfl, _, rfl, _, _, rfl, rfl, _, rfl, _, _, rfl, rfl, by omega, _, _, rfl, rfl, ?_⟩
      have e1 := Int.emod_nonneg (sd ^ Int.toNat 5 + 40693 * sd + (i : Int)) (by omega : z ≠ 0)
      have e2 := Int.emod_lt_of_pos (sd ^ Int.toNat 5 + 40693 * sd + (i : Int)) (by omega : 0 < z)
      have e3 : 0 ≤ f * z := Int.mul_nonneg f0 (by omega)
      have e4 : f * z ≤ f * 2147483647 := Int.mul_le_mul_of_nonneg_left z1 f0
      have e5 : (2 : Int) ^ (32 * (i + 1) + 1) = 2 ^ (32 * i + 1) * 2 ^ 32 := by rw [← Int.pow_add]; exact congrArg (fun n : Nat => (2 : Int) ^ n) (by omega)
      rw [hsd] at e1 e2
      refine ⟨_, _, _, _, rfl, S2.trans S3, S3 _ _ ht3, by omega, ?_⟩
      rw [e5]
      omega
    · rintro σ H2 ⟨f, v3, v4, v5, rfl, S2, ht3, f0, f1⟩
      exact ⟨_, rfl, q f _ S2 f0⟩
def PurseAt (H : Hp) (p : Addr) (cap : Nat) : Prop := ∃ (a c : Int) (tn : Nat), H p = some (.lst [.int a, .int c, .int tn]) ∧ 0 ≤ a ∧ tn ≤ cap
theorem PurseAt.same {H H' : Hp} {p : Addr} {n : Nat} (e : Same H H') (h : PurseAt H p n) : PurseAt H' p n := by
  obtain ⟨a, c, t, h1, h2⟩ := h; exact ⟨a, c, t, e _ _ h1, h2⟩
theorem PurseAt.upd {H : Hp} {p D : Addr} {o : HO} {n : Nat} (e : p ≠ D) (h : PurseAt H p n) : PurseAt (L2.upd H D o) p n := by
  obtain ⟨a, c, t, h1, h2⟩ := h; exact ⟨a, c, t, by rw [upd_ne e]; exact h1, h2⟩
theorem purse_ne {H : Hp} {p a : Addr} {n : Nat} (h : PurseAt H p n) (m : H a = none) : a ≠ p := fun z => by obtain ⟨_, _, _, h1, _⟩ := h; rw [← z, m] at h1; cases h1
def spPurse (K : PySem.W.Frag) : Sp := fun vs H Q _ => ∃ (a : Addr) (ns : List Int) (k : Nat), vs = [.ref a, .int k] ∧ SqL K H a (ns.map V.int) ∧ k ≤ 60 ∧ ∀ p H', H p = none → Same H H' → PurseAt H' p 60 → Q (.ref p) H'
theorem k__law_purse (D : Df K mg "_law_purse" s__law_purse ["_law_script", "_law_k"]) : Dn P w K mg base 1 "_law_purse" ["_law_script", "_law_k"] (spPurse K) := by
  refine D.ok fun f fd F => okG0 F sc__law_purse (fun vs H Q E h => ?_) (fun cdv A outer s H vs Q E hr h => ⟨_, (pss_cons (ps_set (i := 2) sc__law_purse.nd rfl (Or.inl rfl) (pe_ifExp (pt_cmpR op_lt (pv 1) (pe_callB (lenK (K := K)) (by rfl) B.len_ (by decide +kernel) (pa_cons (pv 0) pa_nil)) (nomark _)) (pe_ix (kk (K := K) (F := rIxL) (P := IxR _) ix_list) (pv 0) (pv 1) (fun _ _ => rfl)) pe_int))
    (pss_one (ps_ret (pe_lst (pa_cons (pe_callB (call_max2 rfl) (by rfl) B.max_ (by decide +kernel) (pa_cons pe_int (pa_cons (pe_op op_sub (pv 2) (pe_op op_pow pe_int pe_int)) pa_nil))) (pa_cons (pv 2) (pa_cons (pv 1) pa_nil))))))), ?_⟩)
  · obtain ⟨a, ns, k, rfl, _⟩ := h; rfl
  · obtain ⟨a, ns, k, rfl, hs, hk, q⟩ := h
    refine ⟨_, rfl, _, rfl, a, _, rfl, .inl hs, _, _, rfl, rfl, _, rfl, ?_⟩
    refine ifE (fun v H' => H' = H ∧ ∃ c : Int, v = .int c) ?_ (fun c Q' q' => ?_) (fun c Q' q' => q' _ _ ⟨rfl, 0, rfl⟩)
    · rintro _ _ ⟨rfl, c, rfl⟩
      refine ⟨_, rfl, _, _, rfl, rfl, ⟨by decide, by decide, by decide⟩, _, _, rfl, rfl, _, _, rfl, _, rfl, _, rfl, sz, fun p hp => ?_⟩
      refine q p _ hp (same_new hp _) ⟨_, _, _, upd_same, ?_, hk⟩
      split <;> omega
    · have c' : (k : Int) < ((ns.map V.int).length : Nat) := of_decide_eq_true c
      have hk2 : k < ns.length := by rw [List.length_map] at c'; omega
      refine ⟨_, rfl, _, rfl, a, _, _, _, rfl, rfl, hs, at_of (j := k) rfl (by rw [List.getElem?_map, List.getElem?_eq_getElem hk2] <;> rfl), ?_⟩
      exact q' _ _ ⟨rfl, _, rfl⟩
def spTakeP (K : PySem.W.Frag) : Sp := fun vs H Q _ => ∃ (p : Addr) (m : Int) (cap : Nat), vs = [.ref p, .int m] ∧ PurseAt H p cap ∧ cap ≤ 90000 ∧ 1 ≤ m ∧ m < 2 ^ 200 ∧ ∀ (d : Int) H', 0 ≤ d → d < m → But p H H' → PurseAt H' p (cap + 64) → Q (.int d) H'
theorem k__law_take (D : Df K mg "_law_take" s__law_take ["_law_purse_here", "_law_many"]) (D__law_rich : Dn P w K mg base 1 "_law_rich" ["_law_cell", "_law_turn"] (spRich K)) : Dn P w K mg base 2 "_law_take" ["_law_purse_here", "_law_many"] (spTakeP K) := by
  refine D.ok fun f fd F => okG0 F sc__law_take (fun vs H Q E h => ?_) (fun cdv A outer s H vs Q E hr h => ⟨_, (pss_cons (ps_if (pt_cmpR op_eq (pe_ix (kk (K := K) (F := rIxL) (P := IxR _) ix_list) (pv 0) pe_int (fun _ _ => rfl)) pe_int (nomark _))
      (pss_cons (ps_asg (pe_cD D__law_rich (hr.less (by decide)) rfl (pa_cons (pe_ix (kk (K := K) (F := rIxL) (P := IxR _) ix_list) (pv 0) pe_int (fun _ _ => rfl)) (pa_cons (pe_ix (kk (K := K) (F := rIxL) (P := IxR _) ix_list) (pv 0) pe_int (fun _ _ => rfl)) pa_nil))) (pg_sub (pv 0) pe_int set_list))
      (pss_one (ps_asg (pe_op op_add (pe_ix (kk (K := K) (F := rIxL) (P := IxR _) ix_list) (pv 0) pe_int (fun _ _ => rfl)) pe_int) (pg_sub (pv 0) pe_int set_list))))
      pss_nil)
    (pss_cons (ps_set (i := 2) sc__law_take.nd rfl (Or.inl rfl) (pe_op op_mod (pe_ix (kk (K := K) (F := rIxL) (P := IxR _) ix_list) (pv 0) pe_int (fun _ _ => rfl)) (pv 1)))
    (pss_cons (ps_asg (pe_op op_fdivW (pe_ix (kk (K := K) (F := rIxL) (P := IxR _) ix_list) (pv 0) pe_int (fun _ _ => rfl)) (pv 1)) (pg_sub (pv 0) pe_int set_list))
    (pss_one (ps_ret (pv 2)))))), ?_⟩)
  · obtain ⟨p, m, cap, rfl, _⟩ := h; rfl
  · obtain ⟨p, m, cap, rfl, ⟨a, c, tn, hp, ha, ht⟩, hcap, hm, hm2, q⟩ := h
    have key : ∀ (a : Int) (tn : Nat) (H2 : Hp), But p H H2 → H2 p = some (.lst [.int a, .int c, .int tn]) → 0 ≤ a → tn ≤ cap + 64 → H2 p = some (.lst [.int a, .int c, .int tn]) ∧ PurseAt (upd H2 p (.lst [.int (a / m), .int c, .int tn])) p (cap + 64) ∧ But p H (upd H2 p (.lst [.int (a / m), .int c, .int tn])) ∧ 0 ≤ a % m ∧ a % m < m := by
      intro a tn H2 b h1 h2 h3
      refine ⟨h1, ⟨_, _, _, upd_same, Int.ediv_nonneg h2 (by omega), h3⟩, b.trans But.upd, Int.emod_nonneg _ (by omega), Int.emod_lt_of_pos _ (by omega)⟩
    refine ⟨_, rfl, p, _, _, _, rfl, rfl, SqL.of hp, at_of (j := 0) rfl rfl, rfl, _, rfl, ite2 (fun e => ?_) (fun e => ?_)⟩
    · refine ⟨_, rfl, p, _, _, _, rfl, rfl, SqL.of hp, at_of (j := 1) rfl rfl, _, rfl, p, _, _, _, rfl, rfl, SqL.of hp, at_of (j := 2) rfl rfl, c, tn, rfl, by omega, fun n H1 S1 n0 => ?_⟩
      have hp1 := S1 _ _ hp
      refine ⟨_, rfl, p, _, _, _, rfl, rfl, hp1, rfl, ?_⟩
      refine ⟨_, rfl, p, _, _, _, rfl, rfl, SqL.of upd_same, at_of (j := 2) rfl rfl, _, _, rfl, rfl, ?_⟩
      refine ⟨_, rfl, p, _, _, _, rfl, rfl, upd_same, rfl, ?_⟩
      obtain ⟨k1, k2, k3, k4, k5⟩ := key n (tn + 64) _ (((same_but S1).trans But.upd).trans But.upd) upd_same n0 (by omega)
      refine ⟨_, rfl, p, _, _, _, rfl, rfl, SqL.of k1, at_of (j := 0) rfl rfl, _, rfl, _, _, rfl, rfl, by omega, ?_⟩
      refine ⟨_, rfl, p, _, _, _, rfl, rfl, SqL.of k1, at_of (j := 0) rfl rfl, _, rfl, _, _, rfl, rfl, wide_div (b := 200) (by omega) (by omega) (by decide) (by decide), ?_⟩
      refine ⟨_, rfl, p, _, _, _, rfl, rfl, k1, rfl, _, rfl, ?_⟩
      exact q _ _ k4 k5 k3 k2
    · obtain ⟨k1, k2, k3, k4, k5⟩ := key a tn H (same_but (Same.refl H)) hp ha (by omega)
      refine ⟨_, rfl, p, _, _, _, rfl, rfl, SqL.of k1, at_of (j := 0) rfl rfl, _, rfl, _, _, rfl, rfl, by omega, ?_⟩
      refine ⟨_, rfl, p, _, _, _, rfl, rfl, SqL.of k1, at_of (j := 0) rfl rfl, _, rfl, _, _, rfl, rfl, wide_div (b := 200) (by omega) (by omega) (by decide) (by decide), ?_⟩
      refine ⟨_, rfl, p, _, _, _, rfl, rfl, k1, rfl, _, rfl, ?_⟩
      exact q _ _ k4 k5 k3 k2
/-! SPLIT -/
local macro_rules | `(tactic| walk_at "own") => `(tactic| fail)
local macro_rules | `(tactic| walk_at "sm") => `(tactic| first
  | with_reducible assumption
  | exact fun _ _ z => z
  | (apply Toy.same_bk; (with_reducible assumption); walk_at "sm")
  | solve_by_elim only [Toy.same_bk, *])
local macro_rules | `(tactic| walk_at "hp") => `(tactic| ((with_reducible refine (?_ : _ = some _)); first
  | with_reducible assumption
  | exact L2.upd_same
  | (apply Toy.hp_new; assumption; walk_at "hp")
  | (apply Toy.hp_at; (with_reducible assumption); walk_at "sm")))
local macro_rules | `(tactic| walk_at "sql") => `(tactic| first
  | with_reducible assumption
  | (apply L2.SqL.of; walk_at "hp")
  | (apply Toy.sql_at; (with_reducible assumption); walk_at "sm"))
local macro_rules | `(tactic| walk_at "sqt") => `(tactic| first
  | with_reducible assumption
  | (apply L2.SqT.of; walk_at "hp")
  | (apply Toy.sqt_at; (with_reducible assumption); walk_at "sm"))
local macro_rules | `(tactic| walk_at "ar") => `(tactic| first
  | with_reducible refine (?_ : (_ : Int) < _)
  | with_reducible refine (?_ : (_ : Int) ≤ _)
  | with_reducible refine (?_ : (_ : Nat) < _)
  | with_reducible refine (?_ : (_ : Nat) ≤ _)
  | with_reducible refine (?_ : (_ : Int) = _)
  | with_reducible refine (?_ : (_ : Nat) = _)
  | with_reducible refine (?_ : ¬ _)
  | with_reducible refine (?_ : _ ∧ _))
local macro_rules | `(tactic| walk_at "om") => `(tactic| (walk_at "ar"; omega))
local macro_rules | `(tactic| walk_at "num") => `(tactic| first
  | (walk_at "ar"; first
    | omega
    | (simp only [List.length_map, List.length_append, List.length_cons, List.length_nil, List.length_replicate, List.length_take, List.length_drop, List.length_range, List.length_set, List.length_reverse] <;> omega)
    | decide
    | (split <;> split <;> omega)
    | (split <;> omega))
  | decide)
local macro_rules | `(tactic| walk_at "side") => `(tactic| first
  | with_reducible rfl
  | walk_at "om"
  | with_reducible assumption
  | exact Toy.sz
  | (apply L2.SqL.of; walk_at "hp")
  | (apply L2.SqT.of; walk_at "hp")
  | (with_reducible apply Or.inl; walk_at "sql")
  | (with_reducible apply Or.inr; walk_at "sqt")
  | (with_reducible apply Exists.intro; walk_at "side")
  | walk_at "hp"
  | exact Eq.refl _
  | (apply Toy.lk1000; walk_at "num")
  | (apply Toy.lt1000; walk_at "num")
  | walk_at "num"
  | (apply Toy.lst_dp; apply L2.SqL.of; walk_at "hp")
  | (apply Toy.tupI_dp; apply L2.SqT.of; walk_at "hp")
  | exact Toy.ints_sh _
  | exact Toy.tupI_sh _
  | (apply L2.RgOk.of_le <;> walk_at "num")
  | (apply L2.atI_nat; assumption)
  | exact L2.Dp.lst (L2.SqL.of (by walk_at "hp")) L2.DpAll.nil
  | exact L2.Dp.tup (L2.SqT.of (by walk_at "hp")) L2.DpAll.nil
  | (apply Toy.ixn; walk_at "num")
  | exact Toy.tyL (by walk_at "hp")
  | walk_at "sql"
  | walk_at "sqt"
  | exact L2.ClsV.ty _
  | (apply L2.TyX.base; first | exact L2.TyOf.int _ | exact L2.TyOf.bl _ | exact L2.TyOf.non | exact L2.TyOf.str _ | (apply L2.TyOf.tup; walk_at "hp") | (apply L2.TyOf.lst; walk_at "hp"))
  | exact L2.kit_ty (r := true) (by decide +kernel)
  | exact L2.kit_ty (r := false) (by decide +kernel)
  | walk_at "own"
  | assumption
  | (walk_at "ar"; solve_by_elim only [Toy.hp_same, Toy.hp_new, L2.upd_same, *]))
local macro_rules | `(tactic| walk_at "go") => `(tactic| first
  | (apply And.intro; (focus (walk_at "side")); try walk_at "go")
  | (apply Exists.intro; rotate_left; (fail_if_success (with_reducible refine (?_ : Nat → _ → _))); (fail_if_success (with_reducible refine (?_ : L2.St → _ → _))); rotate_right; try walk_at "go")
  | (apply Or.inl; apply And.intro; (focus (walk_at "sql")); try walk_at "go")
  | (apply Or.inr; apply And.intro; (focus (walk_at "sqt")); try walk_at "go"))
/-! ENDM -/
omit B in
theorem low_lns {k lv : Nat} {p : Nat × Nat} (hk : k ≤ 4) (h : p.1 < 2 ^ k ∧ p.2 < 2 ^ k) (hl : lv < k + 1) : low k p.1 p.2 lv = lline k p.1 p.2 lv := low_is k (by omega) _ h.1 _ h.2 _ hl
/-- a row of pairs -/
structure PrT (H : Hp) (k : Nat) (T : Addr) (ts : List Addr) (ps : List (Nat × Nat)) : Prop where
  tup : H T = some (.tup (ts.map V.ref))
  pts : PtsAt H ts ps
  rng : ∀ p ∈ ps, p.1 < 2 ^ k ∧ p.2 < 2 ^ k
  len : ps.length ≤ 100
omit B in
theorem PrT.same {H H' : Hp} {k : Nat} {T : Addr} {ts : List Addr} {ps : List (Nat × Nat)} (a : PrT H k T ts ps) (e : Same H H') : PrT H' k T ts ps := ⟨e _ _ a.tup, a.pts.same e, a.rng, a.len⟩
omit B in
theorem PrT.get {H H' : Hp} {k : Nat} {T : Addr} {ts : List Addr} {ps : List (Nat × Nat)} {i : Nat} {x : V} (a : PrT H k T ts ps) (e : Same H H') (h : (ts.map V.ref)[i]? = some x) : ∃ (t : Addr) (p : Nat × Nat), x = .ref t ∧ ps[i]? = some p ∧ H' t = some (.tup [.int (p.1 : Nat), .int (p.2 : Nat)]) ∧ p.1 < 2 ^ k ∧ p.2 < 2 ^ k := by
  rw [List.getElem?_map] at h
  obtain ⟨t, ht, rfl⟩ := Option.map_eq_some_iff.mp h
  have hi : i < ps.length := by rw [← a.pts.1]; exact (List.getElem?_eq_some_iff.mp ht).1
  have e1 : ps[i]? = some ps[i] := List.getElem?_eq_getElem hi
  exact ⟨t, ps[i], rfl, e1, e _ _ (a.pts.2 i t _ ht e1), a.rng _ (List.getElem_mem hi)⟩
omit B in
theorem PrT.ln {H : Hp} {k : Nat} {T : Addr} {ts : List Addr} {ps : List (Nat × Nat)} (a : PrT H k T ts ps) : (ts.map V.ref).length = ps.length := by rw [List.length_map, a.pts.1]
omit B in
theorem eqv_nil {ns : List Int} : PyData.eqv (.list (ns.map PyData.int)) (.list []) = ns.isEmpty := by
  cases ns <;> rfl
def spWantPairs (K : PySem.W.Frag) : Sp := fun vs H Q _ => ∃ (k : Nat) (T : Addr) (ts : List Addr) (ps : List (Nat × Nat)), vs = [.int k, .ref T] ∧ k ≤ 4 ∧ PrT H k T ts ps ∧ ∀ H', Same H H' → Q .non H'
theorem k_want_pairs (D : Df K mg "want_pairs" s_want_pairs ["k", "pairs"]) (D_want_hand : Dn P w K mg base 3 "want_hand" ["k", "thing"] spWantLine) (D_want_side : Dn P w K mg base 3 "want_side" ["k", "thing"] spWantLine) : Dn P w K mg base 4 "want_pairs" ["k", "pairs"] (spWantPairs K) := by
  refine D.ok fun f fd F => okG0 F sc_want_pairs (fun vs H Q E h => ?_) (fun cdv A outer s H vs Q E hr h => ⟨_, (pss_cons (ps_if (PW.pt (pw_or (pt_not (pt_val (pe_callB (kk (K := K) (F := rIsi) (P := CallR _ _) call_isi) (by rfl) B.isinstance_ (by decide +kernel) (pa_cons (pv 1) (pa_cons (pe_bltn (v := .ty "tuple") (u := .type "tuple") (by rfl) B.tuple_ (by decide +kernel) rfl) pa_nil))))) (pw_or1 (pt_not (pt_val (pe_callB (kk (K := K) (F := rAll) (P := CallR _ _) (cr_all rfl)) (by rfl) B.all_ (by decide +kernel) (pa_cons (pe_lc (own := [("one", 4)]) (g := gName 4) (tt := tYes) rfl sc_want_pairs.nd (kk (K := K) (F := fun K => iTup K _) (P := PI _ _ _) (pi_tup (pv 1))) (blkOk_by (own := [("one", 4)]) (N := ["k", "pairs", "hand", "goal", "one"]) (sc := defScope s_want_pairs) (by decide +kernel)) (fun _ _ _ _ _ => (pg_name (i := 4) sc_want_pairs.nd rfl (Or.inl rfl))) (fun _ _ _ _ _ => pts_nil) (fun _ _ _ _ _ => (pe_and (pe_callB (kk (K := K) (F := rIsi) (P := CallR _ _) call_isi) (by rfl) B.isinstance_ (by decide +kernel) (pa_cons (pv 4) (pa_cons (pe_bltn (v := .ty "tuple") (u := .type "tuple") (by rfl) B.tuple_ (by decide +kernel) rfl) pa_nil))) (pe_one (pe_cmpR op_eq (pe_callB (lenK (K := K)) (by rfl) B.len_ (by decide +kernel) (pa_cons (pv 4) pa_nil)) pe_int (nomark _)))))) pa_nil)))))))
      (pss_one ps_never)
      pss_nil)
    (pss_cons (ps_for PassesOwn.never rfl (kk (K := K) (F := fun K => iTup K _) (P := PI _ _ _) (pi_tup (pv 1))) (kk (K := K) (F := fun K => gTup K 2 _) (P := PG _ _) (pg_tup rfl (pgs_cons (pg_name (i := 2) sc_want_pairs.nd rfl (Or.inl rfl)) (pgs_cons (pg_name (i := 3) sc_want_pairs.nd rfl (Or.inl rfl)) pgs_nil))))
      (pss_one (ps_expr (pe_cD D_want_hand (hr.less (by decide)) rfl (pa_cons (pv 0) (pa_cons (pv 2) pa_nil))))))
    (pss_one (ps_for PassesOwn.never rfl (kk (K := K) (F := fun K => iTup K _) (P := PI _ _ _) (pi_tup (pv 1))) (kk (K := K) (F := fun K => gTup K 2 _) (P := PG _ _) (pg_tup rfl (pgs_cons (pg_name (i := 2) sc_want_pairs.nd rfl (Or.inl rfl)) (pgs_cons (pg_name (i := 3) sc_want_pairs.nd rfl (Or.inl rfl)) pgs_nil))))
     (pss_one (ps_expr (pe_cD D_want_side (hr.less (by decide)) rfl (pa_cons (pv 0) (pa_cons (pv 3) pa_nil))))))))), ?_⟩)
  · obtain ⟨k, T, ts, ps, rfl, _⟩ := h; rfl
  · obtain ⟨k, T, ts, ps, rfl, hk, hP, q⟩ := h
    have hT := hP.tup
    have hl := hP.ln
    have hle := hP.len
    try walk_at "go"
    intro D hD
    refine lc_tup (K := K) (a := T) (xs := ts.map V.ref) (fun i H' => Same H H' ∧ H' D = some (.lst ((List.replicate i true).map V.bl))) ⟨same_new hD _, upd_same⟩ (fun i H' _ h => SqT.of (h.1 _ _ hT)) ?_ ?_
    · rintro i x H' hx ⟨S1, hD1⟩
      obtain ⟨t, p, rfl, ep, ht, h1, h2⟩ := hP.get S1 hx
      have hi : i < 101 := by have := (List.getElem?_eq_some_iff.mp ep).1; omega
      try walk_at "go"
      exact ⟨but_same hD S1 But.upd, by rw [upd_same]; exact congrArg (fun z => some (HO.lst z)) rep_snoc⟩
    rintro H2 ⟨S2, hD2⟩
    try walk_at "go"
    rw [rep_all]
    try walk_at "go"
    refine for_tup (K := K) (a := T) (xs := ts.map V.ref) (fun i σ H' => ∃ w2 w3 w4, σ = [some (.int (k : Nat)), some (.ref T), w2, w3, w4] ∧ Same H H') ⟨_, _, _, rfl, S2⟩ (fun i σ H' _ ⟨_, _, _, _, S⟩ => SqT.of (S _ _ hT)) ?_ ?_
    · rintro i x σ H3 hx ⟨w2, w3, w4, rfl, S3⟩
      obtain ⟨t, p, rfl, ep, ht, h1, h2⟩ := hP.get S3 hx
      try walk_at "go"
      exact S3
    rintro σ H3 ⟨w2, w3, w4, rfl, S3⟩
    try walk_at "go"
    refine for_tup (K := K) (a := T) (xs := ts.map V.ref) (fun i σ H' => ∃ w2 w3 w4, σ = [some (.int (k : Nat)), some (.ref T), w2, w3, w4] ∧ Same H H') ⟨_, _, _, rfl, S3⟩ (fun i σ H' _ ⟨_, _, _, _, S⟩ => SqT.of (S _ _ hT)) ?_ ?_
    · rintro i x σ H4 hx ⟨w2, w3, w4, rfl, S4⟩
      obtain ⟨t, p, rfl, ep, ht, h1, h2⟩ := hP.get S4 hx
      try walk_at "go"
      exact S4
    rintro σ H4 ⟨w2, w3, w4, rfl, S4⟩
    exact q _ S4
def rAns (k : Nat) (ps : List (Nat × Nat)) (H : Hp) (Q : VK) : Prop := ∀ r v H', Fst (lns k ps) k r → Same H H' → (match r with | none => v = .non | some (lv, x) => ∃ U, v = .ref U ∧ H' U = some (.tup [.int (lv : Nat), .int x])) → Q v H'
def spShared (K : PySem.W.Frag) : Sp := fun vs H Q _ => ∃ (k : Nat) (T : Addr) (ts : List Addr) (ps : List (Nat × Nat)), vs = [.int k, .ref T] ∧ k ≤ 4 ∧ PrT H k T ts ps ∧ rAns k ps H Q
theorem k_shared_line (D : Df K mg "shared_line" s_shared_line ["k", "pairs"]) (D_line_on_way : Dn P w K mg base 1 "line_on_way" ["k", "hand", "goal", "level"] spLow) : Dn P w K mg base 2 "shared_line" ["k", "pairs"] (spShared K) := by
  refine D.ok fun f fd F => okG0 F sc_shared_line (fun vs H Q E h => ?_) (fun cdv A outer s H vs Q E hr h => ⟨_, (pss_cons (ps_for PassesOwn.never rfl (pi_range1 (by rfl) B.range_ (pa_cons (pe_op op_add (pv 0) pe_int) pa_nil)) (pg_name (i := 2) sc_shared_line.nd rfl (Or.inr rfl))
      (pss_cons (ps_set (i := 3) sc_shared_line.nd rfl (Or.inr rfl) (pe_lc (own := [("hand", 5), ("goal", 6)]) (tt := tYes) rfl sc_shared_line.nd (kk (K := K) (F := fun K => iTup K _) (P := PI _ _ _) (pi_tup (pv 1))) (blkOk_by (own := [("hand", 5), ("goal", 6)]) (N := ["k", "pairs", "level", "lines", "found", "hand", "goal", "line"]) (sc := defScope s_shared_line) (by decide +kernel)) (fun _ _ _ _ _ => (kk (K := K) (F := fun K => gTup K 2 _) (P := PG _ _) (pg_tup rfl (pgs_cons (pg_name (i := 5) sc_shared_line.nd rfl (Or.inl rfl)) (pgs_cons (pg_name (i := 6) sc_shared_line.nd rfl (Or.inl rfl)) pgs_nil))))) (fun _ _ _ _ _ => pts_nil) (fun _ _ _ _ _ => (pe_cD D_line_on_way (hr.less (by decide)) rfl (pa_cons (pv 0) (pa_cons (pv 5) (pa_cons (pv 6) (pa_cons (pv 2) pa_nil))))))))
      (pss_cons (ps_setLc (i := 4) (own := [("line", 7)]) (g := gName 7) rfl sc_shared_line.nd rfl rfl (sw_true rfl rfl rfl (by decide +kernel)) (kk (K := K) (F := fun K => iList K _) (P := PI _ _ _) (pi_list (pv 3))) (blkOk_by (own := [("line", 7)]) (N := ["k", "pairs", "level", "lines", "found", "hand", "goal", "line"]) (sc := defScope s_shared_line) (by decide +kernel)) (fun _ _ _ _ _ => (pg_name (i := 7) sc_shared_line.nd rfl (Or.inl rfl))) (fun _ _ _ _ _ => (pts_one (pt_cmpR op_gt (kk (K := K) (F := fun K => tBM K "list" _ _ _) (P := PE _ _) (pe_bm PySem.F.plainAttrs_list PySem.F.slot_list_count PySem.F.type_list_count mt_lcount (pv 3) (pa_cons (pv 7) pa_nil))) pe_int (nomark _)))) (fun _ _ _ _ _ => (pv 7)))
      (pss_one (ps_if (pt_cmpR (kk (K := K) (F := rNeD) (P := OpR _ _) (op_neD hr.units)) (pv 4) (pe_lst pa_nil) (nomark _))
       (pss_one (ps_ret (pe_tup (pa_cons (pv 2) (pa_cons (pe_callB (kk (K := K) (F := rMin) (P := CallR _ _) (cr_min rfl)) (by rfl) B.min_ (by decide +kernel) (pa_cons (pv 4) pa_nil)) pa_nil)))))
       pss_nil)))))
    (pss_one (ps_ret pe_non))), ?_⟩)
  · obtain ⟨k, T, ts, ps, rfl, _⟩ := h; rfl
  · obtain ⟨k, T, ts, ps, rfl, hk, hP, q⟩ := h
    have hl := hP.ln
    have hle := hP.len
    try walk_at "go"
    have e5 : (((k : Nat) : Int) + 1).toNat = k + 1 := by omega
    rw [e5]
    refine for_range (lo := 0) (n := k + 1) (fun i σ H' => ∃ w2 w3 w4 w5 w6 w7, σ = [some (.int (k : Nat)), some (.ref T), w2, w3, w4, w5, w6, w7] ∧ Same H H' ∧ ∀ lv, lv < i → ∀ x, ¬ Rp (lns k ps lv) x) ⟨_, _, _, _, _, _, rfl, fun _ _ h => h, fun lv h => by omega⟩ ?_ ?_
    · rintro i σ H1 hi ⟨w2, w3, w4, w5, w6, w7, rfl, S1, no1⟩
      rw [Int.zero_add]
      have hT1 := S1 _ _ hP.tup
      try walk_at "go"
      intro D hD
      refine lc_tup (K := K) (a := T) (xs := ts.map V.ref) (fun j H' => Same H1 H' ∧ H' D = some (.lst ((lns k (ps.take j) i).map V.int))) ⟨same_new hD _, upd_same⟩ (fun j H' _ h => SqT.of (h.1 _ _ hT1)) ?_ ?_
      · rintro j x H' hx ⟨S2, hD2⟩
        obtain ⟨t, p, rfl, ep, ht, h1, h2⟩ := hP.get (S1.trans S2) hx
        have hj : j < 101 := by have := (List.getElem?_eq_some_iff.mp ep).1; omega
        have el := low_lns (k := k) (lv := i) (p := p) hk ⟨h1, h2⟩ hi
        have et : lns k (ps.take (j + 1)) i = lns k (ps.take j) i ++ [lline k p.1 p.2 i] := by unfold lns; rw [List.take_succ, ep, List.map_append] <;> rfl
        have ll : ((lns k (ps.take j) i).map V.int).length ≤ 200 := by unfold lns; rw [List.length_map, List.length_map, List.length_take]; omega
        try walk_at "go"
        refine ⟨but_same hD S2 But.upd, ?_⟩
        rw [upd_same, et, List.map_append, el] <;> rfl
      rintro H2 ⟨S2, hD2⟩
      rw [hl, List.take_length] at hD2
      try walk_at "go"
      intro E hE
      have lL : (lns k ps i).length ≤ 100 := by unfold lns; rw [List.length_map]; exact hle
      generalize hL : lns k ps i = L at hD2 lL
      refine lc_list (K := K) (a := D) (xs := L.map V.int) (fun j H' => Same H2 H' ∧ H' E = some (.lst (((L.take j).filter fun x => decide (1 < L.count x)).map V.int))) ⟨same_new hE _, upd_same⟩ (fun j H' _ h => SqL.of (h.1 _ _ hD2)) ?_ ?_
      · rintro j x H' hx ⟨S3, hE3⟩
        rw [List.getElem?_map] at hx
        obtain ⟨z, hz, rfl⟩ := Option.map_eq_some_iff.mp hx
        have et : L.take (j + 1) = L.take j ++ [z] := by rw [List.take_succ, hz] <;> rfl
        have ll : (((L.take j).filter fun x => decide (1 < L.count x)).map V.int).length ≤ 200 := by
          rw [List.length_map]
          refine Nat.le_trans (List.length_filter_le _ _) ?_
          rw [List.length_take]; omega
        try walk_at "go"
        refine ite2 (fun c => ?_) (fun c => ?_)
        · have c2 : 1 < L.count z := by have := of_decide_eq_true c; omega
          try walk_at "go"
          refine ⟨but_same hE S3 But.upd, ?_⟩
          rw [upd_same, et, List.filter_append, List.map_append, List.filter_cons_of_pos (by rw [decide_eq_true c2]), List.filter_nil] <;> rfl
        · have c2 : ¬ 1 < L.count z := fun z => c (decide_eq_true (by omega))
          refine ⟨S3, ?_⟩
          rw [hE3, et, List.filter_append, List.filter_cons_of_neg (by simpa using c2), List.filter_nil, List.append_nil]
      rintro H3 ⟨S3, hE3⟩
      rw [List.length_map, List.take_length] at hE3
      have rep : ∀ x, x ∈ L.filter (fun x => decide (1 < L.count x)) ↔ Rp L x := by
        intro x
        rw [List.mem_filter, decide_eq_true_iff]
        exact ⟨fun h => h.2, fun h => ⟨List.count_pos_iff.mp (by unfold Rp at h; omega), h⟩⟩
      generalize L.filter (fun x => decide (1 < L.count x)) = F at hE3 rep
      have S13 : Same H H3 := S1.trans (S2.trans S3)
      try walk_at "go"
      intro N hN
      generalize eH4 : upd _ N _ = H4
      have SH4 := newS eH4 hN
      have oN := newO eH4
      try walk_at "go"
      rw [eqv_nil]
      cases F with
      | nil =>
        try walk_at "go"
        refine ⟨S13.trans SH4, fun lv hlv x hx => ?_⟩
        rcases Nat.lt_or_ge lv i with c | c
        · exact no1 lv c x hx
        · obtain rfl : lv = i := by omega
          rw [hL] at hx
          exact absurd ((rep x).mpr hx) List.not_mem_nil
      | cons f F =>
        try walk_at "go"
        intro m hm hle2
        try walk_at "go"
        intro U hU
        generalize eH5 : upd _ U _ = H5
        have SH5 := newS eH5 hU
        have oU := newO eH5
        refine q (some (i, m)) _ _ ⟨by omega, by rw [hL]; exact (rep m).mp hm, fun y hy => ?_, no1⟩ (S13.trans (SH4.trans SH5)) ⟨U, rfl, oU⟩
        rw [hL] at hy
        exact hle2 y ((rep y).mpr hy)
    · rintro σ H1 ⟨w2, w3, w4, w5, w6, w7, rfl, S1, no1⟩
      exact q none _ _ (fun lv hl => no1 lv (by omega)) S1 rfl
theorem k_first_shared (D : Df K mg "first_shared" s_first_shared ["k", "pairs"]) (D_want_net : DnD P w K mg base 3 "want_net" ["k", "deepest"] [.int 4] spWantNet) (D_want_pairs : Dn P w K mg base 4 "want_pairs" ["k", "pairs"] (spWantPairs K)) (D_shared_line : Dn P w K mg base 2 "shared_line" ["k", "pairs"] (spShared K)) : Dn P w K mg base 5 "first_shared" ["k", "pairs"] (spShared K) := by
  refine D.ok fun f fd F => okG0 F sc_first_shared (fun vs H Q E h => ?_) (fun cdv A outer s H vs Q E hr h => ⟨_, (pss_cons (ps_expr (pe_cDd D_want_net (hr.less (by decide)) rfl (pa_cons (pv 0) pa_nil)))
    (pss_cons (ps_expr (pe_cD D_want_pairs (hr.less (by decide)) rfl (pa_cons (pv 0) (pa_cons (pv 1) pa_nil))))
    (pss_one (ps_ret (pe_cD D_shared_line (hr.less (by decide)) rfl (pa_cons (pv 0) (pa_cons (pv 1) pa_nil))))))), ?_⟩)
  · obtain ⟨k, T, ts, ps, rfl, _⟩ := h; rfl
  · obtain ⟨k, T, ts, ps, rfl, hk, hP, q⟩ := h
    try walk_at "go"
    intro H1 S1
    have hP1 := hP.same S1
    have q1 : rAns k ps H1 Q := fun r v H' h1 h2 h3 => q r v H' h1 (S1.trans h2) h3
    try walk_at "go"
    exact q1
/-! SPLIT -/
/-! settings as rows of 0 and 1 -/
/-- settings as told -/
def Tbl := Nat → Nat → Int
omit B in
theorem row_len {k : Nat} {s : Nat → Nat → Int} {j : Nat} : (row k s j).length = 2 ^ (k - 1) := by unfold row; rw [List.length_map, List.length_range]
omit B in
theorem row_at {k : Nat} {s : Nat → Nat → Int} {j n : Nat} (h : n < 2 ^ (k - 1)) : (row k s j)[n]? = some (s j n) := by unfold row; rw [List.getElem?_map, List.getElem?_range h] <;> rfl
omit B in
theorem row_bit {k : Nat} {s : Nat → Nat → Int} {j : Nat} (h : Bt s) : ∀ x ∈ row k s j, x = 0 ∨ x = 1 := fun x hx => by
  obtain ⟨n, _, rfl⟩ := List.mem_map.mp hx
  exact h j n
def SeAt (H : Hp) (T : Addr) (k : Nat) (s : Nat → Nat → Int) : Prop := ∃ as : List Addr, H T = some (.tup (as.map V.ref)) ∧ as.length = k ∧ ∀ (j : Nat) (a : Addr), as[j]? = some a → H a = some (.tup ((row k s j).map V.int))
omit B in
theorem SeAt.same {H H' : Hp} {T : Addr} {k : Nat} {s : Nat → Nat → Int} (a : SeAt H T k s) (e : Same H H') : SeAt H' T k s := by
  obtain ⟨as, h1, h2, h3⟩ := a
  exact ⟨as, e _ _ h1, h2, fun j x hx => e _ _ (h3 j x hx)⟩
def nV (ss : List Nat) : List V := ss.map fun n => V.int (n : Nat)
omit B in
theorem nV_snoc {ss : List Nat} {n : Nat} : nV ss ++ [.int (n : Nat)] = nV (ss ++ [n]) := by unfold nV; rw [List.map_append] <;> rfl
omit B in
theorem mV_snoc {α : Type} {f : α → V} {ss : List α} {n : α} : ss.map f ++ [f n] = (ss ++ [n]).map f := by rw [List.map_append] <;> rfl
/-- a side for each hand -/
def sdl (k : Nat) (g : Nat → Nat) : List Nat := (List.range (2 ^ k)).map g
omit B in
theorem sdl_len {k : Nat} {g : Nat → Nat} : (nV (sdl k g)).length = 2 ^ k := by unfold nV sdl; rw [List.length_map, List.length_map, List.length_range]
omit B in
theorem sdl_at {k i : Nat} {g : Nat → Nat} {x : V} (h : (nV (sdl k g))[i]? = some x) : i < 2 ^ k ∧ x = .int (g i : Nat) := by
  have l := (List.getElem?_eq_some_iff.mp h).1
  rw [sdl_len] at l
  unfold nV sdl at h
  rw [List.getElem?_map, List.getElem?_map, List.getElem?_range l] at h
  exact ⟨l, (Option.some.inj h).symm⟩
omit B in
theorem ints_refs {ns : List Int} {rs : List Addr} (h : ns ≠ []) : HO.lst (ns.map V.int) ≠ HO.lst (rs.map V.ref) := fun z => by
  have z2 := HO.lst.inj z
  cases ns with
  | nil => exact h rfl
  | cons n ns =>
    cases rs with
    | nil => cases z2
    | cons r rs => cases z2
/-- the stepper stops here -/
structure Kept (p : Prop) : Prop where
  ex : p
/-- rows of numbers that are written into -/
structure RowsAt (H : Hp) (rs : List Addr) (k : Nat) (c : Nat → Nat → Int) : Prop where
  len : rs.length = k
  inj : ∀ (i j : Nat) (a : Addr), rs[i]? = some a → rs[j]? = some a → i = j
  at_ : ∀ (j : Nat) (a : Addr), rs[j]? = some a → H a = some (.lst ((row k c j).map V.int))
omit B in
theorem row_ne {k j : Nat} {c : Nat → Nat → Int} : row k c j ≠ [] := fun z => by
  have := congrArg List.length z
  rw [row_len] at this
  have h2 := Nat.two_pow_pos (k - 1)
  simp at this
omit B in
theorem RowsAt.upd {H H' : Hp} {rs : List Addr} {k j n : Nat} {c : Nat → Nat → Int} {v : Int} {a : Addr} (R : RowsAt H rs k c) (ha : rs[j]? = some a) (b : But a H H')
    (o : H' a = some (.lst (((row k c j).map V.int).set n (.int v)))) (hn : n < 2 ^ (k - 1)) : RowsAt H' rs k (wr c j n v) := by
  refine ⟨R.len, R.inj, fun i x hx => ?_⟩
  by_cases e : i = j
  · subst e
    rw [ha] at hx
    cases (Option.some.inj hx)
    rw [o, row_wr hn, List.map_set]
  · rw [row_wr_ne e]
    refine b _ _ (fun z => e ?_) (R.at_ i x hx)
    subst z
    exact R.inj i j x hx ha
omit B in
theorem RowsAt.same {H H' : Hp} {rs : List Addr} {k : Nat} {c : Nat → Nat → Int} (R : RowsAt H rs k c) (e : Same H H') : RowsAt H' rs k c := ⟨R.len, R.inj, fun j a h => e _ _ (R.at_ j a h)⟩
omit B in
theorem SeAt.get {H : Hp} {T : Addr} {k j n : Nat} {s : Nat → Nat → Int} (a : SeAt H T k s) (hj : j < k) (hn : n < 2 ^ (k - 1)) : ∃ (as : List Addr) (r : Addr), H T = some (.tup (as.map V.ref)) ∧ atI (as.map V.ref) (j : Int) = some (.ref r) ∧ H r = some (.tup ((row k s j).map V.int)) ∧ atI ((row k s j).map V.int) (n : Int) = some (.int (s j n)) := by
  obtain ⟨as, h1, h2, h3⟩ := a
  have e : as[j]? = some as[j] := List.getElem?_eq_getElem (by omega)
  exact ⟨as, as[j], h1, atI_nat (by rw [List.getElem?_map, e] <;> rfl), h3 _ _ e, atI_nat (by rw [List.getElem?_map, row_at hn] <;> rfl)⟩
omit B in
theorem bit_shl {c : Int} {k j : Nat} (hk : k ≤ 4) (hj : j < k) (h : c = 0 ∨ c = 1) : CShl c ((k : Int) - ((j + 1 : Nat) : Int)) := shl_small (by rcases h with rfl | rfl <;> decide) (by omega) (by omega)
def spFig : Sp := fun vs H Q _ => ∃ k n st : Nat, vs = [.int k, .int n, .int st] ∧ k ≤ 4 ∧ st ≤ k ∧ n < 2 ^ k ∧ Q (.int (fg k n st)) H
theorem k_figure_in (D : Df K mg "figure_in" s_figure_in ["k", "line", "stage"]) : Dn P w K mg base 1 "figure_in" ["k", "line", "stage"] spFig := by
  refine D.ok fun f fd F => okG0 F sc_figure_in (fun vs H Q E h => ?_) (fun cdv A outer s H vs Q E hr h => ⟨_, (pss_one (ps_ret (pe_op op_and (pe_op op_shr (pv 1) (pe_op op_sub (pv 0) (pv 2))) pe_int))), ?_⟩)
  · obtain ⟨k, n, st, rfl, _⟩ := h; rfl
  · obtain ⟨k, n, st, rfl, h1, h2, h3, q⟩ := h
    try walk_at "go"
    exact q
def spIsSR (K : PySem.W.Frag) : Sp := fun vs H Q _ => ∃ (k : Nat) (T : Addr) (xs : List Int), vs = [.int k, .ref T] ∧ 1 ≤ k ∧ k ≤ 4 ∧ H T = some (.tup (xs.map V.int)) ∧ xs.length = 2 ^ (k - 1) ∧ (∀ x ∈ xs, x = 0 ∨ x = 1) ∧ ∀ H', Same H H' → Q (.bl true) H'
theorem k_is_setting_row (D : Df K mg "is_setting_row" s_is_setting_row ["k", "thing"]) (D_is_whole : Dn P w K mg base 1 "is_whole" ["thing"] spIsWhole) : Dn P w K mg base 2 "is_setting_row" ["k", "thing"] (spIsSR K) := by
  refine D.ok fun f fd F => okG0 F sc_is_setting_row (fun vs H Q E h => ?_) (fun cdv A outer s H vs Q E hr h => ⟨_, (pss_cons (ps_if (PW.pt (pw_or (pt_not (pt_val (pe_callB (kk (K := K) (F := rIsi) (P := CallR _ _) call_isi) (by rfl) B.isinstance_ (by decide +kernel) (pa_cons (pv 1) (pa_cons (pe_bltn (v := .ty "tuple") (u := .type "tuple") (by rfl) B.tuple_ (by decide +kernel) rfl) pa_nil))))) (pw_or1 (pt_cmpR op_ne (pe_callB (lenK (K := K)) (by rfl) B.len_ (by decide +kernel) (pa_cons (pv 1) pa_nil)) (pe_op op_shlW pe_int (pe_op op_sub (pv 0) pe_int)) (nomark _)))))
      (pss_one (ps_ret pe_bl))
      pss_nil)
    (pss_one (ps_ret (pe_callB (kk (K := K) (F := rAll) (P := CallR _ _) (cr_all rfl)) (by rfl) B.all_ (by decide +kernel) (pa_cons (pe_lc (own := [("number", 2)]) (g := gName 2) (tt := tYes) rfl sc_is_setting_row.nd (kk (K := K) (F := fun K => iTup K _) (P := PI _ _ _) (pi_tup (pv 1))) (blkOk_by (own := [("number", 2)]) (N := ["k", "thing", "number"]) (sc := defScope s_is_setting_row) (by decide +kernel)) (fun _ _ _ _ _ => (pg_name (i := 2) sc_is_setting_row.nd rfl (Or.inl rfl))) (fun _ _ _ _ _ => pts_nil) (fun _ _ _ _ _ => (pe_and (pe_cD D_is_whole (hr.less (by decide)) rfl (pa_cons (pv 2) pa_nil)) (pe_one (pe_chain op_le op_le pe_int (pv 2) pe_int))))) pa_nil))))), ?_⟩)
  · obtain ⟨k, T, xs, rfl, _⟩ := h; rfl
  · obtain ⟨k, T, xs, rfl, k1, hk, hT, hl, hb, q⟩ := h
    have e1 : (k : Int) - 1 = ((k - 1 : Nat) : Int) := by omega
    have hsh : CShl 1 ((k : Int) - 1) := by rw [e1]; exact shl_ok (by omega)
    have eL : (1 : Int) * 2 ^ (((k : Nat) : Int) - 1).toNat = ((2 ^ (k - 1) : Nat) : Int) := by rw [Int.one_mul, e1, Int.toNat_natCast]; push_cast; rfl
    have hl2 : (xs.map V.int).length = 2 ^ (k - 1) := by rw [List.length_map, hl]
    have e8 : 2 ^ (k - 1) ≤ 8 := (Nat.pow_le_pow_right (by decide) (by omega) : 2 ^ (k - 1) ≤ 2 ^ 3)
    try walk_at "go"
    refine ite2 (fun c => ?_) (fun c => ?_)
    · have e9 : V.int ((xs.map V.int).length : Nat) = V.int ((1 : Int) * 2 ^ (((k : Nat) : Int) - 1).toNat) := by rw [hl2, eL]
      rw [show decide (V.int ((xs.map V.int).length : Nat) = (fun i j : Int => V.int (i * 2 ^ j.toNat)) 1 ((k : Int) - 1)) = true from decide_eq_true e9] at c
      exact absurd c (by decide)
    try walk_at "go"
    intro D hD
    refine lc_tup (K := K) (a := T) (xs := xs.map V.int) (fun i H' => Same H H' ∧ H' D = some (.lst ((List.replicate i true).map V.bl))) ⟨same_new hD _, upd_same⟩ (fun i H' _ h => SqT.of (h.1 _ _ hT)) ?_ ?_
    · rintro i x H' hx ⟨S1, hD1⟩
      rw [List.getElem?_map] at hx
      obtain ⟨z, hz, rfl⟩ := Option.map_eq_some_iff.mp hx
      have hi : i < 8 := by have := (List.getElem?_eq_some_iff.mp hz).1; omega
      have hz1 := hb z (List.mem_of_getElem? hz)
      have z0 : 0 ≤ z := by omega
      have z1 : z ≤ 1 := by omega
      try walk_at "go"
      refine ifT (decide_eq_true z0) ?_
      try walk_at "go"
      have e11 : (fun i j : Int => V.bl (decide (i ≤ j))) z 1 = V.bl true := congrArg V.bl (decide_eq_true z1)
      rw [e11]
      exact ⟨but_same hD S1 But.upd, by rw [upd_same]; exact congrArg (fun z => some (HO.lst z)) rep_snoc⟩
    rintro H2 ⟨S2, hD2⟩
    try walk_at "go"
    rw [rep_all]
    exact q _ S2
def spIsSe (K : PySem.W.Frag) : Sp := fun vs H Q _ => ∃ (k : Nat) (T : Addr) (s : Tbl), vs = [.int k, .ref T] ∧ k ≤ 4 ∧ SeAt H T k s ∧ Bt s ∧ ∀ H', Same H H' → Q (.bl true) H'
theorem k_is_settings (D : Df K mg "is_settings" s_is_settings ["k", "thing"]) (D_want_net : DnD P w K mg base 3 "want_net" ["k", "deepest"] [.int 4] spWantNet) (D_is_setting_row : Dn P w K mg base 2 "is_setting_row" ["k", "thing"] (spIsSR K)) : Dn P w K mg base 4 "is_settings" ["k", "thing"] (spIsSe K) := by
  refine D.ok fun f fd F => okG0 F sc_is_settings (fun vs H Q E h => ?_) (fun cdv A outer s H vs Q E hr h => ⟨_, (pss_cons (ps_expr (pe_cDd D_want_net (hr.less (by decide)) rfl (pa_cons (pv 0) pa_nil)))
    (pss_one (ps_ret (pe_and (pe_callB (kk (K := K) (F := rIsi) (P := CallR _ _) call_isi) (by rfl) B.isinstance_ (by decide +kernel) (pa_cons (pv 1) (pa_cons (pe_bltn (v := .ty "tuple") (u := .type "tuple") (by rfl) B.tuple_ (by decide +kernel) rfl) pa_nil))) (pe_and (pe_cmpR op_eq (pe_callB (lenK (K := K)) (by rfl) B.len_ (by decide +kernel) (pa_cons (pv 1) pa_nil)) (pv 0) (nomark _)) (pe_one (pe_callB (kk (K := K) (F := rAll) (P := CallR _ _) (cr_all rfl)) (by rfl) B.all_ (by decide +kernel) (pa_cons (pe_lc (own := [("row", 2)]) (g := gName 2) (tt := tYes) rfl sc_is_settings.nd (kk (K := K) (F := fun K => iTup K _) (P := PI _ _ _) (pi_tup (pv 1))) (blkOk_by (own := [("row", 2)]) (N := ["k", "thing", "row"]) (sc := defScope s_is_settings) (by decide +kernel)) (fun _ _ _ _ _ => (pg_name (i := 2) sc_is_settings.nd rfl (Or.inl rfl))) (fun _ _ _ _ _ => pts_nil) (fun _ _ _ _ _ => (pe_cD D_is_setting_row (hr.less (by decide)) rfl (pa_cons (pv 0) (pa_cons (pv 2) pa_nil))))) pa_nil)))))))), ?_⟩)
  · obtain ⟨k, T, s, rfl, _⟩ := h; rfl
  · obtain ⟨k, T, s, rfl, hk, ⟨as, hT, hl, has⟩, hb, q⟩ := h
    have hl2 : (as.map V.ref).length = k := by rw [List.length_map, hl]
    try walk_at "go"
    refine ifT (decide_eq_true (by rw [hl2])) ?_
    try walk_at "go"
    intro D hD
    refine lc_tup (K := K) (a := T) (xs := as.map V.ref) (fun i H' => Kept (Same H H' ∧ H' D = some (.lst ((List.replicate i true).map V.bl)))) ⟨same_new hD _, upd_same⟩ (fun i H' _ h => SqT.of (h.ex.1 _ _ hT)) ?_ ?_
    · rintro i x H' hx ⟨S1, hD1⟩
      rw [List.getElem?_map] at hx
      obtain ⟨a, ha, rfl⟩ := Option.map_eq_some_iff.mp hx
      have hi : i < k := by have := (List.getElem?_eq_some_iff.mp ha).1; omega
      have hA := S1 _ _ (has i a ha)
      have hrl := row_len (k := k) (s := s) (j := i)
      have hrb := row_bit (k := k) (j := i) hb
      have k1 : 1 ≤ k := by omega
      try walk_at "go"
      intro H3 S3
      have hD3 := S3 _ _ hD1
      try walk_at "go"
      exact ⟨⟨but_same hD (S1.trans S3) But.upd, by rw [upd_same]; exact congrArg (fun z => some (HO.lst z)) rep_snoc⟩⟩
    rintro H2 ⟨S2, hD2⟩
    try walk_at "go"
    rw [rep_all]
    exact q _ S2
def spWantSe (K : PySem.W.Frag) : Sp := fun vs H Q _ => ∃ (k : Nat) (T : Addr) (s : Tbl), vs = [.int k, .ref T] ∧ k ≤ 4 ∧ SeAt H T k s ∧ Bt s ∧ ∀ H', Same H H' → Q .non H'
theorem k_want_settings (D : Df K mg "want_settings" s_want_settings ["k", "thing"]) (D_is_settings : Dn P w K mg base 4 "is_settings" ["k", "thing"] (spIsSe K)) : Dn P w K mg base 5 "want_settings" ["k", "thing"] (spWantSe K) := by
  refine D.ok fun f fd F => okG0 F sc_want_settings (fun vs H Q E h => ?_) (fun cdv A outer s H vs Q E hr h => ⟨_, (pss_one (ps_if (pt_not (pt_val (pe_cD D_is_settings (hr.less (by decide)) rfl (pa_cons (pv 0) (pa_cons (pv 1) pa_nil)))))
     (pss_one ps_never)
     pss_nil)), ?_⟩)
  · obtain ⟨k, T, s, rfl, _⟩ := h; rfl
  · obtain ⟨k, T, s, rfl, hk, hS, hb, q⟩ := h
    try walk_at "go"
    intro H1 S1
    try walk_at "go"
    exact q _ S1
omit B in
theorem none_back {H H' : Hp} {a : Addr} (S : Same H H') (h : H' a = none) : H a = none := by
  cases e : H a with
  | none => rfl
  | some o =>
    rw [S _ _ e] at h
    cases h
omit B in
theorem flat_rep {k : Nat} : (List.replicate (2 ^ (k - 1)) [V.int 0]).flatten = (row k (fun _ _ => 0) 0).map V.int := by
  unfold row
  rw [List.map_map]
  have : ∀ n, (List.replicate n [V.int 0]).flatten = (List.range n).map (V.int ∘ (fun _ => (0 : Int))) := by
    intro n
    induction n with
    | zero => rfl
    | succ n ih => rw [List.replicate_succ', List.flatten_append, ih, List.range_succ, List.map_append] <;> rfl
  exact this _
omit B in
theorem inj_snoc {rs : List Addr} {R : Addr} (inj : ∀ (i j : Nat) (a : Addr), rs[i]? = some a → rs[j]? = some a → i = j) (n : ∀ a ∈ rs, a ≠ R) : ∀ (i j : Nat) (a : Addr), (rs ++ [R])[i]? = some a → (rs ++ [R])[j]? = some a → i = j := by
  have key : ∀ (i : Nat) (a : Addr), (rs ++ [R])[i]? = some a → (i < rs.length ∧ rs[i]? = some a) ∨ (i = rs.length ∧ a = R) := by
    intro i a h
    by_cases c : i < rs.length
    · rw [List.getElem?_append_left c] at h
      exact .inl ⟨c, h⟩
    · rw [List.getElem?_append_right (by omega)] at h
      have := (List.getElem?_eq_some_iff.mp h).1
      have h5 : [R].length = 1 := rfl
      have e : i = rs.length := by omega
      subst e
      rw [Nat.sub_self] at h
      exact .inr ⟨rfl, (Option.some.inj h).symm⟩
  intro i j a h1 h2
  rcases key i a h1 with ⟨_, c⟩ | ⟨c, c'⟩ <;> rcases key j a h2 with ⟨_, d⟩ | ⟨d, d'⟩
  · exact inj i j a c d
  · exact absurd d' (n a (List.mem_of_getElem? c))
  · exact absurd c' (n a (List.mem_of_getElem? d))
  · omega
def spPlain : Sp := fun vs H Q _ => ∃ k : Nat, vs = [.int k] ∧ k ≤ 4 ∧ ∀ D rs H', Same H H' → H D = none → H' D = some (.lst (rs.map V.ref)) → (∀ a ∈ rs, H a = none) → RowsAt H' rs k (fun _ _ => 0) → Q (.ref D) H'
theorem k_plain_rows (D : Df K mg "plain_rows" s_plain_rows ["k"]) : Dn P w K mg base 1 "plain_rows" ["k"] spPlain := by
  refine D.ok fun f fd F => okG0 F sc_plain_rows (fun vs H Q E h => ?_) (fun cdv A outer s H vs Q E hr h => ⟨_, (pss_one (ps_ret (pe_lc (own := [("stage", 1)]) (g := gName 1) (tt := tYes) rfl sc_plain_rows.nd (pi_range1 (by rfl) B.range_ (pa_cons (pv 0) pa_nil)) (blkOk_by (own := [("stage", 1)]) (N := ["k", "stage"]) (sc := defScope s_plain_rows) (by decide +kernel)) (fun _ _ _ _ _ => (pg_name (i := 1) sc_plain_rows.nd rfl (Or.inl rfl))) (fun _ _ _ _ _ => pts_nil) (fun _ _ _ _ _ => (pe_op op_rep (pe_lst (pa_cons pe_int pa_nil)) (pe_op op_shlW pe_int (pe_op op_sub (pv 0) pe_int))))))), ?_⟩)
  · obtain ⟨k, rfl, _⟩ := h; rfl
  · obtain ⟨k, rfl, hk, q⟩ := h
    try walk_at "go"
    intro D hD
    have e5 : ((k : Nat) : Int).toNat = k := by omega
    rw [e5]
    refine lc_range (lo := 0) (n := k) (fun i H' => Kept (∃ rs : List Addr, Same H H' ∧ H' D = some (.lst (rs.map V.ref)) ∧ rs.length = i ∧ (∀ (i j : Nat) (a : Addr), rs[i]? = some a → rs[j]? = some a → i = j) ∧ ∀ a ∈ rs, H a = none ∧ H' a = some (.lst ((row k (fun _ _ => 0) 0).map V.int)))) ⟨[], same_new hD _, upd_same, rfl, fun i j a h => by simp at h, fun a h => absurd h List.not_mem_nil⟩ ?_ ?_
    · rintro i H2 hi ⟨rs, S2, hD2, hl, inj, hrs⟩
      have e1 : (k : Int) - 1 = ((k - 1 : Nat) : Int) := by omega
      have hsh : CShl 1 ((k : Int) - 1) := by rw [e1]; exact shl_ok (by omega)
      have eL : (1 : Int) * 2 ^ (((k : Nat) : Int) - 1).toNat = ((2 ^ (k - 1) : Nat) : Int) := by rw [Int.one_mul, e1, Int.toNat_natCast]; push_cast; rfl
      have e8 : 2 ^ (k - 1) ≤ 8 := (Nat.pow_le_pow_right (by decide) (by omega) : 2 ^ (k - 1) ≤ 2 ^ 3)
      have ul : (rs.map V.ref).length ≤ 16 := by rw [List.length_map]; omega
      try walk_at "go"
      intro P hP
      generalize eH3 : upd _ P _ = H3
      have SH3 := newS eH3 hP
      have oP := newO eH3
      try walk_at "go"
      rw [eL, Int.toNat_natCast]
      have eR : (List.replicate (2 ^ (k - 1)) [V.int 0]).flatten = (row k (fun _ _ => 0) 0).map V.int := flat_rep
      rw [eR]
      intro R hR
      generalize eH4 : upd _ R _ = H4
      have SH4 := newS eH4 hR
      have oR := newO eH4
      have hD4 := SH4 _ _ (SH3 _ _ hD2)
      have hRn : H R = none := none_back S2 (none_back SH3 hR)
      have nRD : R ≠ D := fun z => by subst z; rw [SH3 _ _ hD2] at hR; cases hR
      have nin : ∀ a ∈ rs, a ≠ R := fun a ha z => by have e9 := SH3 _ _ (hrs a ha).2; rw [z, hR] at e9; cases e9
      have nDr : ∀ a ∈ rs, a ≠ D := fun a ha z => by have e9 := (hrs a ha).1; have e8 := (hrs a ha).2; rw [z, hD2] at e8; exact ints_refs row_ne (Option.some.inj e8).symm
      try walk_at "go"
      refine ⟨⟨rs ++ [R], but_same hD (S2.trans (SH3.trans SH4)) But.upd, by rw [upd_same, List.map_append] <;> rfl, by rw [List.length_append, hl] <;> rfl, inj_snoc inj nin, fun a ha => ?_⟩⟩
      rcases List.mem_append.mp ha with c | c
      · exact ⟨(hrs a c).1, by rw [upd_ne (nDr a c)]; exact SH4 _ _ (SH3 _ _ (hrs a c).2)⟩
      · rw [List.mem_singleton.mp c]
        exact ⟨hRn, by rw [upd_ne nRD]; exact oR⟩
    · rintro H2 ⟨rs, S2, hD2, hl, inj, hrs⟩
      refine q D rs _ S2 hD hD2 (fun a ha => (hrs a ha).1) ⟨hl, inj, fun j a h => (hrs a (List.mem_of_getElem? h)).2⟩
def spAsSe (K : PySem.W.Frag) : Sp := fun vs H Q _ => ∃ (D : Addr) (rs : List Addr) (k : Nat) (c : Tbl), vs = [.ref D] ∧ k ≤ 4 ∧ H D = some (.lst (rs.map V.ref)) ∧ RowsAt H rs k c ∧ ∀ T H', Same H H' → SeAt H' T k c → Q (.ref T) H'
theorem k_as_settings (D : Df K mg "as_settings" s_as_settings ["rows"]) : Dn P w K mg base 1 "as_settings" ["rows"] (spAsSe K) := by
  refine D.ok fun f fd F => okG0 F sc_as_settings (fun vs H Q E h => ?_) (fun cdv A outer s H vs Q E hr h => ⟨_, (pss_one (ps_ret (pe_callTy (tupOfK (K := K)) (by rfl) B.tuple_ (by decide +kernel) (pa_cons (pe_lc (own := [("row", 1)]) (g := gName 1) (tt := tYes) rfl sc_as_settings.nd (kk (K := K) (F := fun K => iList K _) (P := PI _ _ _) (pi_list (pv 0))) (blkOk_by (own := [("row", 1)]) (N := ["rows", "row"]) (sc := defScope s_as_settings) (by decide +kernel)) (fun _ _ _ _ _ => (pg_name (i := 1) sc_as_settings.nd rfl (Or.inl rfl))) (fun _ _ _ _ _ => pts_nil) (fun _ _ _ _ _ => (pe_callTy (tupOfK (K := K)) (by rfl) B.tuple_ (by decide +kernel) (pa_cons (pv 1) pa_nil)))) pa_nil)))), ?_⟩)
  · obtain ⟨D, rs, k, c, rfl, _⟩ := h; rfl
  · obtain ⟨D, rs, k, c, rfl, hk, hD, hR, q⟩ := h
    have hrl := hR.len
    try walk_at "go"
    intro E hE
    refine lc_list (K := K) (a := D) (xs := rs.map V.ref) (fun i H' => Kept (∃ us : List Addr, Same H H' ∧ H' E = some (.lst (us.map V.ref)) ∧ us.length = i ∧ ∀ (j : Nat) (a : Addr), us[j]? = some a → H' a = some (.tup ((row k c j).map V.int)))) ⟨[], same_new hE _, upd_same, rfl, fun j a h => by simp at h⟩ (fun i H' _ h => by obtain ⟨us, S, _⟩ := h.ex; exact SqL.of (S _ _ hD)) ?_ ?_
    · rintro i x H2 hx ⟨us, S2, hE2, hul, hus⟩
      rw [List.getElem?_map] at hx
      obtain ⟨r, hr, rfl⟩ := Option.map_eq_some_iff.mp hx
      have hi : i < 4 := by have := (List.getElem?_eq_some_iff.mp hr).1; omega
      have hr2 := S2 _ _ (hR.at_ i r hr)
      have ul : (us.map V.ref).length ≤ 16 := by rw [List.length_map]; omega
      try walk_at "go"
      intro U hU
      generalize eH3 : upd _ U _ = H3
      have SH3 := newS eH3 hU
      have oU := newO eH3
      have hE3 := SH3 _ _ hE2
      try walk_at "go"
      refine ⟨⟨us ++ [U], but_same hE (S2.trans SH3) But.upd, by rw [upd_same, List.map_append] <;> rfl, by rw [List.length_append, hul] <;> rfl, fun j a ha => ?_⟩⟩
      have tk : ∀ r xs, H3 r = some (.tup xs) → upd H3 E (.lst (us.map V.ref ++ [.ref U])) r = some (.tup xs) := fun r xs e => by rw [upd_ne (ne_of e hE3 (by intro z; cases z))]; exact e
      by_cases cc : j < us.length
      · rw [List.getElem?_append_left cc] at ha
        exact tk _ _ (SH3 _ _ (hus j a ha))
      · rw [List.getElem?_append_right (by omega)] at ha
        have hj : j = i := by
          have := (List.getElem?_eq_some_iff.mp ha).1
          have h5 : [U].length = 1 := rfl
          omega
        subst hj
        rw [hul, Nat.sub_self] at ha
        cases (Option.some.inj ha)
        exact tk _ _ oU
    · rintro H2 ⟨us, S2, hE2, hul, hus⟩
      rw [List.length_map, hrl] at hul
      try walk_at "go"
      intro U hU
      generalize eH3 : upd _ U _ = H3
      have SH3 := newS eH3 hU
      have oU := newO eH3
      exact q U _ (S2.trans SH3) ⟨us, oU, hul, fun j a h => SH3 _ _ (hus j a h)⟩
def spLedF (K : PySem.W.Frag) : Sp := fun vs H Q _ => ∃ (k : Nat) (T : Addr) (s : Tbl) (h : Nat), vs = [.int k, .ref T, .int h] ∧ k ≤ 4 ∧ SeAt H T k s ∧ Bt s ∧ h < 2 ^ k ∧ Q (.int (la k s h k : Nat)) H
theorem k_led_from (D : Df K mg "led_from" s_led_from ["k", "settings", "hand"]) (D_number_without : Dn P w K mg base 1 "number_without" ["k", "line", "stage"] spNwo) : Dn P w K mg base 2 "led_from" ["k", "settings", "hand"] (spLedF K) := by
  refine D.ok fun f fd F => okG0 F sc_led_from (fun vs H Q E h => ?_) (fun cdv A outer s H vs Q E hr h => ⟨_, (pss_cons (ps_set (i := 3) sc_led_from.nd rfl (Or.inl rfl) (pv 2))
    (pss_cons (ps_for PassesOwn.never rfl (pi_range2 (by rfl) B.range_ (pa_cons pe_int (pa_cons (pe_op op_add (pv 0) pe_int) pa_nil))) (pg_name (i := 4) sc_led_from.nd rfl (Or.inl rfl))
      (pss_one (ps_set (i := 3) sc_led_from.nd rfl (Or.inl rfl) (pe_op op_xor (pv 3) (pe_op op_shlW (pe_ix (kk (K := K) (F := rIxT) (P := IxR _) ix_tup) (pe_ix (kk (K := K) (F := rIxT) (P := IxR _) ix_tup) (pv 1) (pe_op op_sub (pv 4) pe_int) (fun _ _ => rfl)) (pe_cD D_number_without (hr.less (by decide)) rfl (pa_cons (pv 0) (pa_cons (pv 3) (pa_cons (pv 4) pa_nil)))) (fun _ _ => rfl)) (pe_op op_sub (pv 0) (pv 4)))))))
    (pss_one (ps_ret (pv 3))))), ?_⟩)
  · obtain ⟨k, T, s, x, rfl, _⟩ := h; rfl
  · obtain ⟨k, T, s, x, rfl, hk, hS, hb, hx, q⟩ := h
    try walk_at "go"
    have e5 : (((k : Nat) : Int) + 1 - 1).toNat = k := by omega
    rw [e5]
    refine for_range (lo := 1) (n := k) (fun j σ H' => ∃ v4, σ = [some (.int (k : Nat)), some (.ref T), some (.int (x : Nat)), some (.int (la k s x j : Nat)), v4] ∧ H' = H) ⟨_, rfl, rfl⟩ ?_ ?_
    · rintro j σ H2 hj ⟨v4, rfl, rfl⟩
      have ej : (1 : Int) + (j : Int) = ((j + 1 : Nat) : Int) := by omega
      rw [ej]
      have li := la_in (by omega : k < 5) hb hx j (by omega)
      have ni := nwo_in k (by omega) _ li j hj
      have en : nwo k (la k s x j) (j + 1) = ((nwo k (la k s x j) (j + 1)).toNat : Nat) := by omega
      have nl : (nwo k (la k s x j) (j + 1)).toNat < 2 ^ (k - 1) := by
        have e : ((2 ^ (k - 1) : Nat) : Int) = 2 ^ (k - 1) := by push_cast; rfl
        omega
      obtain ⟨as, r, g1, g2, g3, g4⟩ := hS.get hj nl
      rw [← en] at g4
      have g2' : atI (as.map V.ref) (((j + 1 : Nat) : Int) - 1) = some (.ref r) := by rw [show ((j + 1 : Nat) : Int) - 1 = (j : Int) by omega]; exact g2
      have hbs := bit_shl hk hj (hb j (nwo k (la k s x j) (j + 1)).toNat)
      have sb := stp_bit (by omega : k < 5) li hj (hb j (nwo k (la k s x j) (j + 1)).toNat)
      try walk_at "go"
      refine ⟨?_, rfl⟩
      rw [show ((la k s x (j + 1) : Nat) : Int) = stp k (la k s x j : Nat) (j + 1) (s j (nwo k (la k s x j) (j + 1)).toNat) from Int.toNat_of_nonneg sb.1] <;> rfl
    · rintro σ H2 ⟨v4, rfl, eH⟩
      cases eH
      try walk_at "go"
      exact q
def spLedP (K : PySem.W.Frag) : Sp := fun vs H Q _ => ∃ (k : Nat) (T : Addr) (s : Tbl), vs = [.int k, .ref T] ∧ k ≤ 4 ∧ SeAt H T k s ∧ Bt s ∧ ∀ U H', Same H H' → H' U = some (.tup (nV (sdl k fun h => la k s h k))) → Q (.ref U) H'
theorem k_led (D : Df K mg "led" s_led ["k", "settings"]) (D_want_net : DnD P w K mg base 3 "want_net" ["k", "deepest"] [.int 4] spWantNet) (D_want_settings : Dn P w K mg base 5 "want_settings" ["k", "thing"] (spWantSe K)) (D_led_from : Dn P w K mg base 2 "led_from" ["k", "settings", "hand"] (spLedF K)) : Dn P w K mg base 6 "led" ["k", "settings"] (spLedP K) := by
  refine D.ok fun f fd F => okG0 F sc_led (fun vs H Q E h => ?_) (fun cdv A outer s H vs Q E hr h => ⟨_, (pss_cons (ps_expr (pe_cDd D_want_net (hr.less (by decide)) rfl (pa_cons (pv 0) pa_nil)))
    (pss_cons (ps_expr (pe_cD D_want_settings (hr.less (by decide)) rfl (pa_cons (pv 0) (pa_cons (pv 1) pa_nil))))
    (pss_one (ps_ret (pe_callTy (tupOfK (K := K)) (by rfl) B.tuple_ (by decide +kernel) (pa_cons (pe_lc (own := [("hand", 2)]) (g := gName 2) (tt := tYes) rfl sc_led.nd (pi_range1 (by rfl) B.range_ (pa_cons (pe_op op_shlW pe_int (pv 0)) pa_nil)) (blkOk_by (own := [("hand", 2)]) (N := ["k", "settings", "hand"]) (sc := defScope s_led) (by decide +kernel)) (fun _ _ _ _ _ => (pg_name (i := 2) sc_led.nd rfl (Or.inl rfl))) (fun _ _ _ _ _ => pts_nil) (fun _ _ _ _ _ => (pe_cD D_led_from (hr.less (by decide)) rfl (pa_cons (pv 0) (pa_cons (pv 1) (pa_cons (pv 2) pa_nil)))))) pa_nil)))))), ?_⟩)
  · obtain ⟨k, T, s, rfl, _⟩ := h; rfl
  · obtain ⟨k, T, s, rfl, hk, hS, hb, q⟩ := h
    have hsh : CShl 1 (k : Int) := shl_ok (by omega)
    have eL : (1 : Int) * 2 ^ ((k : Nat) : Int).toNat = ((2 ^ k : Nat) : Int) := by rw [Int.one_mul, Int.toNat_natCast]; push_cast; rfl
    have e16 : 2 ^ k ≤ 16 := (Nat.pow_le_pow_right (by decide) hk : 2 ^ k ≤ 2 ^ 4)
    try walk_at "go"
    intro H1 S1
    try walk_at "go"
    intro D hD
    rw [eL, Int.toNat_natCast]
    refine lc_range (lo := 0) (n := 2 ^ k) (fun i H' => Same H1 H' ∧ H' D = some (.lst (nV ((List.range i).map fun h => la k s h k)))) ⟨same_new hD _, upd_same⟩ ?_ ?_
    · rintro i H2 hi ⟨S2, hD2⟩
      rw [Int.zero_add]
      have hS2 := hS.same (S1.trans S2)
      have ll : (nV ((List.range i).map fun h => la k s h k)).length ≤ 16 := by unfold nV; rw [List.length_map, List.length_map, List.length_range]; omega
      try walk_at "go"
      exact ⟨but_same hD S2 But.upd, by rw [upd_same, nV_snoc, List.range_succ, List.map_append] <;> rfl⟩
    · rintro H2 ⟨S2, hD2⟩
      try walk_at "go"
      intro U hU
      generalize eH3 : upd _ U _ = H3
      have SH3 := newS eH3 hU
      have oU := newO eH3
      exact q U _ (S1.trans (S2.trans SH3)) oU
def spWantSi (K : PySem.W.Frag) : Sp := fun vs H Q _ => ∃ (k : Nat) (T : Addr) (g : Nat → Nat), vs = [.int k, .ref T] ∧ k ≤ 4 ∧ H T = some (.tup (nV (sdl k g))) ∧ Gd k g ∧ ∀ H', Same H H' → Q .non H'
theorem k_want_sides (D : Df K mg "want_sides" s_want_sides ["k", "sides"]) (D_is_line : Dn P w K mg base 2 "is_line" ["k", "thing"] spIsLine) : Dn P w K mg base 3 "want_sides" ["k", "sides"] (spWantSi K) := by
  refine D.ok fun f fd F => okG0 F sc_want_sides (fun vs H Q E h => ?_) (fun cdv A outer s H vs Q E hr h => ⟨_, (pss_one (ps_if (PW.pt (pw_or (pt_not (pt_val (pe_callB (kk (K := K) (F := rIsi) (P := CallR _ _) call_isi) (by rfl) B.isinstance_ (by decide +kernel) (pa_cons (pv 1) (pa_cons (pe_bltn (v := .ty "tuple") (u := .type "tuple") (by rfl) B.tuple_ (by decide +kernel) rfl) pa_nil))))) (pw_or (pt_cmpR op_ne (pe_callB (lenK (K := K)) (by rfl) B.len_ (by decide +kernel) (pa_cons (pv 1) pa_nil)) (pe_op op_shlW pe_int (pv 0)) (nomark _)) (pw_or1 (pt_not (pt_val (pe_callB (kk (K := K) (F := rAll) (P := CallR _ _) (cr_all rfl)) (by rfl) B.all_ (by decide +kernel) (pa_cons (pe_lc (own := [("goal", 2)]) (g := gName 2) (tt := tYes) rfl sc_want_sides.nd (kk (K := K) (F := fun K => iTup K _) (P := PI _ _ _) (pi_tup (pv 1))) (blkOk_by (own := [("goal", 2)]) (N := ["k", "sides", "goal"]) (sc := defScope s_want_sides) (by decide +kernel)) (fun _ _ _ _ _ => (pg_name (i := 2) sc_want_sides.nd rfl (Or.inl rfl))) (fun _ _ _ _ _ => pts_nil) (fun _ _ _ _ _ => (pe_cD D_is_line (hr.less (by decide)) rfl (pa_cons (pv 0) (pa_cons (pv 2) pa_nil))))) pa_nil))))))))
     (pss_one ps_never)
     pss_nil)), ?_⟩)
  · obtain ⟨k, T, g, rfl, _⟩ := h; rfl
  · obtain ⟨k, T, g, rfl, hk, hT, hg, q⟩ := h
    have hsh : CShl 1 (k : Int) := shl_ok (by omega)
    have eL : (1 : Int) * 2 ^ ((k : Nat) : Int).toNat = ((2 ^ k : Nat) : Int) := by rw [Int.one_mul, Int.toNat_natCast]; push_cast; rfl
    have e16 : 2 ^ k ≤ 16 := (Nat.pow_le_pow_right (by decide) hk : 2 ^ k ≤ 2 ^ 4)
    have hl := sdl_len (k := k) (g := g)
    try walk_at "go"
    refine ite2 (fun c => ?_) (fun c => ?_)
    · have e9 : V.int ((nV (sdl k g)).length : Nat) = V.int ((1 : Int) * 2 ^ ((k : Nat) : Int).toNat) := by rw [hl, eL]
      rw [show decide (V.int ((nV (sdl k g)).length : Nat) = (fun i j : Int => V.int (i * 2 ^ j.toNat)) 1 (k : Int)) = true from decide_eq_true e9] at c
      exact absurd c (by decide)
    try walk_at "go"
    intro D hD
    refine lc_tup (K := K) (a := T) (xs := nV (sdl k g)) (fun i H' => Kept (Same H H' ∧ H' D = some (.lst ((List.replicate i true).map V.bl)))) ⟨same_new hD _, upd_same⟩ (fun i H' _ h => SqT.of (h.ex.1 _ _ hT)) ?_ ?_
    · rintro i x H' hx ⟨S1, hD1⟩
      obtain ⟨hi, rfl⟩ := sdl_at hx
      have gi := hg i hi
      try walk_at "go"
      exact ⟨⟨but_same hD S1 But.upd, by rw [upd_same]; exact congrArg (fun z => some (HO.lst z)) rep_snoc⟩⟩
    rintro H2 ⟨S2, hD2⟩
    try walk_at "go"
    rw [rep_all]
    exact q _ S2
def spSetBy (K : PySem.W.Frag) : Sp := fun vs H Q _ => ∃ (k : Nat) (T : Addr) (g : Nat → Nat), vs = [.int k, .ref T] ∧ k ≤ 4 ∧ H T = some (.tup (nV (sdl k g))) ∧ Gd k g ∧ Ap k g ∧ ∀ U c H', Same H H' → SeAt H' U k c → Bt c → (∀ h, h < 2 ^ k → la k c h k = g h) → Q (.ref U) H'
theorem k_settings_by (D : Df K mg "settings_by" s_settings_by ["k", "sides"]) (D_plain_rows : Dn P w K mg base 1 "plain_rows" ["k"] spPlain) (D_figure_in : Dn P w K mg base 1 "figure_in" ["k", "line", "stage"] spFig) (D_number_without : Dn P w K mg base 1 "number_without" ["k", "line", "stage"] spNwo) (D_as_settings : Dn P w K mg base 1 "as_settings" ["rows"] (spAsSe K)) : Dn P w K mg base 3 "settings_by" ["k", "sides"] (spSetBy K) := by
  refine D.ok fun f fd F => okG0 F sc_settings_by (fun vs H Q E h => ?_) (fun cdv A outer s H vs Q E hr h => ⟨_, (pss_cons (ps_set (i := 2) sc_settings_by.nd rfl (Or.inl rfl) (pe_cD D_plain_rows (hr.less (by decide)) rfl (pa_cons (pv 0) pa_nil)))
    (pss_cons (ps_for PassesOwn.never rfl (kk (K := K) (F := fun K => iEnumT K _) (P := PI _ _ _) (pi_enumT (by rfl) B.enumerate_ (pa_cons (pv 1) pa_nil))) (kk (K := K) (F := fun K => gTup K 2 _) (P := PG _ _) (pg_tup rfl (pgs_cons (pg_name (i := 3) sc_settings_by.nd rfl (Or.inl rfl)) (pgs_cons (pg_name (i := 4) sc_settings_by.nd rfl (Or.inl rfl)) pgs_nil))))
      (pss_cons (ps_set (i := 5) sc_settings_by.nd rfl (Or.inl rfl) (pv 3))
      (pss_one (ps_for PassesOwn.never rfl (pi_range2 (by rfl) B.range_ (pa_cons pe_int (pa_cons (pe_op op_add (pv 0) pe_int) pa_nil))) (pg_name (i := 6) sc_settings_by.nd rfl (Or.inl rfl))
       (pss_cons (ps_set (i := 7) sc_settings_by.nd rfl (Or.inl rfl) (pe_op op_xor (pe_cD D_figure_in (hr.less (by decide)) rfl (pa_cons (pv 0) (pa_cons (pv 3) (pa_cons (pv 6) pa_nil)))) (pe_cD D_figure_in (hr.less (by decide)) rfl (pa_cons (pv 0) (pa_cons (pv 4) (pa_cons (pv 6) pa_nil))))))
       (pss_cons (ps_asg (pv 7) (pg_sub (pe_ix (kk (K := K) (F := rIxL) (P := IxR _) ix_list) (pv 2) (pe_op op_sub (pv 6) pe_int) (fun _ _ => rfl)) (pe_cD D_number_without (hr.less (by decide)) rfl (pa_cons (pv 0) (pa_cons (pv 5) (pa_cons (pv 6) pa_nil)))) set_list))
       (pss_one (ps_set (i := 5) sc_settings_by.nd rfl (Or.inl rfl) (pe_op op_xor (pv 5) (pe_op op_shlW (pv 7) (pe_op op_sub (pv 0) (pv 6))))))))))))
    (pss_one (ps_ret (pe_cD D_as_settings (hr.less (by decide)) rfl (pa_cons (pv 2) pa_nil)))))), ?_⟩)
  · obtain ⟨k, T, g, rfl, _⟩ := h; rfl
  · obtain ⟨k, T, g, rfl, hk, hT, hg, ap, q⟩ := h
    try walk_at "go"
    intro D rs H1 S1 hDn hD hfr hR
    have hT1 := S1 _ _ hT
    try walk_at "go"
    refine for_enumT (K := K) (a := T) (xs := nV (sdl k g)) (fun i σ H' => Kept (∃ v3 v4 v5 v6 v7 c, σ = [some (.int (k : Nat)), some (.ref T), some (.ref D), v3, v4, v5, v6, v7] ∧ Same H H' ∧ H' D = some (.lst (rs.map V.ref)) ∧ RowsAt H' rs k c ∧ Bt c ∧ Wd k g i 0 c)) ⟨_, _, _, _, _, fun _ _ => 0, rfl, S1, hD, hR, fun _ _ => .inl rfl, Wd.zero⟩ (fun i σ H' _ h => by obtain ⟨_, _, _, _, _, _, _, S, _⟩ := h.ex; exact SqT.of (S _ _ hT)) ?_ ?_
    · rintro i y P σ H2 hi ⟨v3, v4, v5, v6, v7, c, rfl, S2, hD2, hR2, hb2, hw2⟩ hP
      obtain ⟨hik, rfl⟩ := sdl_at hi
      have gi := hg i hik
      generalize eH3 : upd _ P (HO.tup [.int (i : Nat), .int (g i : Nat)]) = H3
      have SH3 := newS eH3 hP
      have oP := newO eH3
      try walk_at "go"
      have e5 : (((k : Nat) : Int) + 1 - 1).toNat = k := by omega
      rw [e5]
      refine for_range (lo := 1) (n := k) (fun j σ H' => Kept (∃ v6 v7 c, ∃ l : Nat, σ = [some (.int (k : Nat)), some (.ref T), some (.ref D), some (.int (i : Nat)), some (.int (g i : Nat)), some (.int (l : Nat)), v6, v7] ∧ Same H H' ∧ H' D = some (.lst (rs.map V.ref)) ∧ RowsAt H' rs k c ∧ Bt c ∧ Wd k g i j c ∧ (l : Int) = low k i (g i) j)) ⟨_, _, c, i, rfl, S2.trans SH3, SH3 _ _ hD2, hR2.same SH3, hb2, hw2, (low_zero k (by omega) i hik (g i) gi).symm⟩ ?_ ?_
      · rintro j σ H4 hj ⟨v6, v7, c, l, rfl, S4, hD4, hR4, hb4, hw4, el⟩
        have ej : (1 : Int) + (j : Int) = ((j + 1 : Nat) : Int) := by omega
        rw [ej]
        have l1 := low_nat (by omega : k < 5) hik gi (show j ≤ k by omega)
        have l2 := low_nat (by omega : k < 5) hik gi (show j + 1 ≤ k by omega)
        have st := low_step k (by omega) i hik (g i) gi j hj
        have cb := crs_bit (by omega : k < 5) hik gi hj
        have ws := hw4.step (by omega : k < 5) hg ap hik hj
        have elt : (low k i (g i) j).toNat = l := by omega
        rw [elt] at ws
        have li : l < 2 ^ k := by omega
        have ni := nwo_in k (by omega) l li j hj
        have nl : (nwo k l (j + 1)).toNat < 2 ^ (k - 1) := by
          have e : ((2 ^ (k - 1) : Nat) : Int) = 2 ^ (k - 1) := by push_cast; rfl
          omega
        have hjr : j < rs.length := by rw [hR4.len]; exact hj
        obtain ⟨r, er⟩ : ∃ r, rs[j]? = some r := ⟨_, List.getElem?_eq_getElem hjr⟩
        have hr := hR4.at_ j _ er
        have g2 : atI (rs.map V.ref) (((j + 1 : Nat) : Int) - 1) = some (.ref r) := by rw [show ((j + 1 : Nat) : Int) - 1 = (j : Int) by omega]; exact atI_nat (by rw [List.getElem?_map, er] <;> rfl)
        have hix : ixN ((row k c j).map V.int).length (nwo k l (j + 1)) = some (nwo k l (j + 1)).toNat := by
          rw [show nwo k l (j + 1) = ((nwo k l (j + 1)).toNat : Nat) by omega]
          rw [Int.toNat_natCast]
          exact ixn (by rw [List.length_map, row_len]; exact nl)
        have hbs := bit_shl hk hj cb
        have hfrj := hfr _ (List.mem_of_getElem? er)
        generalize hcr : crs k i (g i) j = cr at *
        have hcr2 : Builtin.bitXor (fg k i (j + 1)) (fg k (g i) (j + 1)) = cr := hcr
        rw [hcr2] at st
        try walk_at "go"
        have e12 : (fun i j : Int => V.int (Builtin.bitXor i j)) (fg k i (j + 1)) (fg k (g i) (j + 1)) = V.int cr := congrArg V.int hcr2
        rw [e12, hcr2]
        generalize eH5 : upd H4 r (HO.lst (((row k c j).map V.int).set (nwo k l (j + 1)).toNat (.int cr))) = H5
        have BH5 : But r H4 H5 := eH5 ▸ But.upd
        have oH5 : H5 r = some (HO.lst (((row k c j).map V.int).set (nwo k l (j + 1)).toNat (.int cr))) := eH5 ▸ upd_same
        have nrD : r ≠ D := fun z => by have e8 := hr; rw [z, hD4] at e8; exact ints_refs row_ne (Option.some.inj e8).symm
        have hD5 := BH5 _ _ (Ne.symm nrD) hD4
        have hR5 := hR4.upd er BH5 oH5 nl
        have S5 : Same H H5 := fun b o h => BH5 _ _ (ne_of_none h hfrj) (S4 _ _ h)
        have hl5 : ((low k i (g i) (j + 1)).toNat : Int) = low k i (g i) (j + 1) := l2.1.symm
        try walk_at "go"
        refine ⟨⟨some (.int ((j + 1 : Nat) : Int)), some (.int cr), wr c j (nwo k l (j + 1)).toNat cr, (low k i (g i) (j + 1)).toNat, ?_, S5, hD5, hR5, wr_bit hb4 cb, ws, hl5⟩⟩
        rw [hl5, st, ← el] <;> rfl
      · rintro σ H4 ⟨v6, v7, c, l, rfl, S4, hD4, hR4, hb4, hw4, el⟩
        exact ⟨⟨_, _, _, _, _, c, rfl, S4, hD4, hR4, hb4, hw4.next⟩⟩
    · rintro σ H2 ⟨v3, v4, v5, v6, v7, c, rfl, S2, hD2, hR2, hb2, hw2⟩
      rw [sdl_len] at hw2
      try walk_at "go"
      intro U H3 S3 hU
      exact q U c _ (S2.trans S3) hU hb2 (hw2.fin (by omega) hg)
/-- what settings_for tells -/
def ToldC (H : Hp) (k : Nat) (g : Nat → Nat) (U : Addr) : Prop := ∃ (X : Addr) (r : Nat × Int), Fst (lns k (prs k g)) k (some r) ∧ H U = some (.tup [.str "clash", .ref X]) ∧ H X = some (.tup [.int (r.1 : Nat), .int r.2])
def ToldS (H : Hp) (k : Nat) (g : Nat → Nat) (U : Addr) : Prop := ∃ (X : Addr) (c : Tbl), Ap k g ∧ H U = some (.tup [.str "settings", .ref X]) ∧ SeAt H X k c ∧ Bt c ∧ ∀ h, h < 2 ^ k → la k c h k = g h
def spSetFor (K : PySem.W.Frag) : Sp := fun vs H Q _ => ∃ (k : Nat) (T : Addr) (g : Nat → Nat), vs = [.int k, .ref T] ∧ k ≤ 4 ∧ H T = some (.tup (nV (sdl k g))) ∧ Gd k g ∧
  ∀ U H', Same H H' → ToldC H' k g U ∨ ToldS H' k g U → Q (.ref U) H'
theorem k_settings_for (D : Df K mg "settings_for" s_settings_for ["k", "sides"]) (D_want_net : DnD P w K mg base 3 "want_net" ["k", "deepest"] [.int 4] spWantNet) (D_want_sides : Dn P w K mg base 3 "want_sides" ["k", "sides"] (spWantSi K)) (D_shared_line : Dn P w K mg base 2 "shared_line" ["k", "pairs"] (spShared K)) (D_settings_by : Dn P w K mg base 3 "settings_by" ["k", "sides"] (spSetBy K)) : Dn P w K mg base 6 "settings_for" ["k", "sides"] (spSetFor K) := by
  refine D.ok fun f fd F => okG0 F sc_settings_for (fun vs H Q E h => ?_) (fun cdv A outer s H vs Q E hr h => ⟨_, (pss_cons (ps_expr (pe_cDd D_want_net (hr.less (by decide)) rfl (pa_cons (pv 0) pa_nil)))
    (pss_cons (ps_expr (pe_cD D_want_sides (hr.less (by decide)) rfl (pa_cons (pv 0) (pa_cons (pv 1) pa_nil))))
    (pss_cons (ps_set (i := 2) sc_settings_for.nd rfl (Or.inl rfl) (pe_cD D_shared_line (hr.less (by decide)) rfl (pa_cons (pv 0) (pa_cons (kk (K := K) (F := fun K => tTupEnT K _) (P := PE _ _) (pe_tupEnT rfl (by rfl) B.tuple_ (by rfl) B.enumerate_ (pa_cons (pv 1) pa_nil))) pa_nil))))
    (pss_cons (ps_if (pt_cmpR op_notN (pv 2) pe_non (nomark _))
      (pss_one (ps_ret (pe_tup (pa_cons pe_str (pa_cons (pv 2) pa_nil)))))
      pss_nil)
    (pss_one (ps_ret (pe_tup (pa_cons pe_str (pa_cons (pe_cD D_settings_by (hr.less (by decide)) rfl (pa_cons (pv 0) (pa_cons (pv 1) pa_nil))) pa_nil))))))))), ?_⟩)
  · obtain ⟨k, T, g, rfl, _⟩ := h; rfl
  · obtain ⟨k, T, g, rfl, hk, hT, hg, q⟩ := h
    try walk_at "go"
    intro H1 S1
    have hT1 := S1 _ _ hT
    have e16 : 2 ^ k ≤ 16 := (Nat.pow_le_pow_right (by decide) hk : 2 ^ k ≤ 2 ^ 4)
    have l100 : (nV (sdl k g)).length ≤ 1000 := by rw [sdl_len]; omega
    try walk_at "go"
    intro P ts H2 S2 hPn hP hl hx
    have hP2 : PrT H2 k P ts (prs k g) := by
      refine ⟨hP, ⟨by rw [hl, sdl_len]; unfold prs; rw [List.length_map, List.length_range], fun j t p ht hp => ?_⟩, fun p hp => ?_, by unfold prs; rw [List.length_map, List.length_range]; omega⟩
      · unfold prs at hp
        rw [List.getElem?_map] at hp
        obtain ⟨j', hj', rfl⟩ := Option.map_eq_some_iff.mp hp
        have hjl : j < 2 ^ k := by have := (List.getElem?_eq_some_iff.mp hj').1; rwa [List.length_range] at this
        rw [List.getElem?_range hjl] at hj'
        cases hj'
        refine hx j t _ ht ?_
        unfold nV sdl
        rw [List.getElem?_map, List.getElem?_map, List.getElem?_range hjl] <;> rfl
      · unfold prs at hp
        obtain ⟨j, hj, rfl⟩ := List.mem_map.mp hp
        exact ⟨List.mem_range.mp hj, hg j (List.mem_range.mp hj)⟩
    try walk_at "go"
    intro r v H3 fs S3 hv
    have hT3 := S3 _ _ (S2 _ _ hT1)
    cases r with
    | none =>
      have hv2 : v = .non := hv
      subst hv2
      have ap := ap_of (by omega : k < 5) hg fs
      try walk_at "go"
      intro X c H4 S4 hX hb hl4
      try walk_at "go"
      intro U hU
      generalize eH5 : upd _ U _ = H5
      have SH5 := newS eH5 hU
      have oU := newO eH5
      exact q U _ (S1.trans (S2.trans (S3.trans (S4.trans SH5)))) (.inr ⟨X, c, ap, oU, hX.same SH5, hb, hl4⟩)
    | some r =>
      obtain ⟨X, hv2, hX⟩ : ∃ U, v = .ref U ∧ H3 U = some (.tup [.int (r.1 : Nat), .int r.2]) := hv
      subst hv2
      try walk_at "go"
      intro U hU
      generalize eH5 : upd _ U _ = H5
      have SH5 := newS eH5 hU
      have oU := newO eH5
      exact q U _ (S1.trans (S2.trans (S3.trans SH5))) (.inl ⟨X, r, fs, oU, SH5 _ _ hX⟩)
/-! SPLIT -/
/-! ### the law's own (k35) -/
omit B in
theorem num_figs : ∀ k, k < 5 → ∀ l, l < 2 ^ k → num (figs k l) = (l : Nat) := by decide +kernel
omit B in
theorem fig_set : ∀ k, k < 5 → ∀ l, l < 2 ^ k → ∀ j, j < k → 0 ≤ fig k l j ∧ fig k l j ≤ 1 := by decide +kernel
omit B in
theorem but_keep {p : Addr} {H H' : Hp} {cap : Nat} (b : But p H H') (hp : PurseAt H p cap) : ∀ t xs, H t = some (.tup xs) → H' t = some (.tup xs) := fun t xs e => by
  obtain ⟨_, _, _, h1, _⟩ := hp
  exact b _ _ (ne_of e h1 (by intro z; cases z)) e
omit B in
theorem SeAt.keep {H H' : Hp} {T : Addr} {k : Nat} {s : Nat → Nat → Int} (a : SeAt H T k s) (e : ∀ t xs, H t = some (.tup xs) → H' t = some (.tup xs)) : SeAt H' T k s := by
  obtain ⟨as, h1, h2, h3⟩ := a
  exact ⟨as, e _ _ h1, h2, fun j x hx => e _ _ (h3 j x hx)⟩
omit B in
theorem But.fr {p E : Addr} {H H1 : Hp} {o : HO} (b : But p H H1) (hE : H E = none) : But p H (L2.upd H1 E o) := fun x u n h => by rw [upd_ne (ne_of_none h hE)]; exact b x u n h
/-- one row more -/
def ext (s : Nat → Nat → Int) (i : Nat) (bs : List Int) : Nat → Nat → Int := fun j n => if j = i then bs.getD n 0 else s j n
omit B in
theorem row_ext {k i : Nat} {s : Nat → Nat → Int} {bs : List Int} (h : bs.length = 2 ^ (k - 1)) : row k (ext s i bs) i = bs := by
  refine List.ext_getElem? fun n => ?_
  unfold row
  rw [List.getElem?_map]
  by_cases c : n < 2 ^ (k - 1)
  · rw [List.getElem?_range c]
    show some (ext s i bs i n) = _
    unfold ext
    rw [if_pos rfl, List.getD_eq_getElem?_getD, List.getElem?_eq_getElem (by omega)] <;> rfl
  · rw [List.getElem?_eq_none (by rw [List.length_range]; omega), List.getElem?_eq_none (by omega)] <;> rfl
omit B in
theorem row_ext_ne {k i j : Nat} {s : Nat → Nat → Int} {bs : List Int} (h : j ≠ i) : row k (ext s i bs) j = row k s j := by
  unfold row
  refine List.map_congr_left fun m _ => ?_
  unfold ext
  rw [if_neg h]
omit B in
theorem ext_bt {i : Nat} {s : Nat → Nat → Int} {bs : List Int} (h : Bt s) (hb : ∀ x ∈ bs, x = 0 ∨ x = 1) : Bt (ext s i bs) := fun j n => by
  unfold ext
  split
  · rw [List.getD_eq_getElem?_getD]
    by_cases c : n < bs.length
    · rw [List.getElem?_eq_getElem c]
      exact hb _ (List.getElem_mem c)
    · rw [List.getElem?_eq_none (by omega)]
      exact .inl rfl
  · exact h j n
def spSettS (K : PySem.W.Frag) : Sp := fun vs H Q _ => ∃ (p : Addr) (k cap : Nat), vs = [.ref p, .int k] ∧ k ≤ 4 ∧ PurseAt H p cap ∧ cap ≤ 10000 ∧ ∀ T (s : Tbl) H', But p H H' → PurseAt H' p (cap + 64 * 64) → SeAt H' T k s → Bt s → Q (.ref T) H'
theorem k__law_settings (D : Df K mg "_law_settings" s__law_settings ["_law_purse_here", "_law_k"]) (D__law_take : Dn P w K mg base 2 "_law_take" ["_law_purse_here", "_law_many"] (spTakeP K)) : Dn P w K mg base 3 "_law_settings" ["_law_purse_here", "_law_k"] (spSettS K) := by
  refine D.ok fun f fd F => okG0 F sc__law_settings (fun vs H Q E h => ?_) (fun cdv A outer s H vs Q E hr h => ⟨_, (pss_cons (ps_set (i := 2) sc__law_settings.nd rfl (Or.inl rfl) (pe_lst pa_nil))
    (pss_cons (ps_for PassesOwn.never rfl (pi_range1 (by rfl) B.range_ (pa_cons (pv 1) pa_nil)) (pg_name (i := 3) sc__law_settings.nd rfl (Or.inl rfl))
      (pss_one (ps_expr (kk (K := K) (F := fun K => tBM K "list" _ _ _) (P := PE _ _) (pe_bm PySem.F.plainAttrs_list PySem.F.slot_list_append PySem.F.type_list_append mt_append (pv 2) (pa_cons (pe_callTy (tupOfK (K := K)) (by rfl) B.tuple_ (by decide +kernel) (pa_cons (pe_lc (own := [("_law_number", 4)]) (g := gName 4) (tt := tYes) rfl sc__law_settings.nd (pi_range1 (by rfl) B.range_ (pa_cons (pe_op op_shlW pe_int (pe_op op_sub (pv 1) pe_int)) pa_nil)) (blkOk_by (own := [("_law_number", 4)]) (N := ["_law_purse_here", "_law_k", "_law_rows", "_law_stage", "_law_number"]) (sc := defScope s__law_settings) (by decide +kernel)) (fun _ _ _ _ _ => (pg_name (i := 4) sc__law_settings.nd rfl (Or.inl rfl))) (fun _ _ _ _ _ => pts_nil) (fun _ _ _ _ _ => (pe_cD D__law_take (hr.less (by decide)) rfl (pa_cons (pv 0) (pa_cons pe_int pa_nil))))) pa_nil)) pa_nil))))))
    (pss_one (ps_ret (pe_callTy (tupOfK (K := K)) (by rfl) B.tuple_ (by decide +kernel) (pa_cons (pv 2) pa_nil)))))), ?_⟩)
  · obtain ⟨p, k, cap, rfl, _⟩ := h; rfl
  · obtain ⟨p, k, cap, rfl, hk, hp, hc, q⟩ := h
    try walk_at "go"
    intro D hD
    generalize eH1 : upd _ D _ = H1
    have SH1 := newS eH1 hD
    have oD := newO eH1
    have npD : p ≠ D := Ne.symm (purse_ne B hp hD)
    have hp1 := PurseAt.same B SH1 hp
    try walk_at "go"
    have e5 : ((k : Nat) : Int).toNat = k := by omega
    rw [e5]
    refine for_range (lo := 0) (n := k) (fun i σ H' => Kept (∃ w3 w4 s, ∃ rs : List Addr, σ = [some (.ref p), some (.int (k : Nat)), some (.ref D), w3, w4] ∧ But p H H' ∧ PurseAt H' p (cap + 64 * 8 * i) ∧ H' D = some (.lst (rs.map V.ref)) ∧ rs.length = i ∧ Bt s ∧ ∀ (j : Nat) (r : Addr), rs[j]? = some r → H' r = some (.tup ((row k s j).map V.int)))) ⟨_, _, fun _ _ => 0, [], rfl, same_but SH1, hp1, oD, rfl, fun _ _ => .inl rfl, fun j r h => by simp at h⟩ ?_ ?_
    · rintro i σ H2 hi ⟨w3, w4, s, rs, rfl, B2, hp2, hD2, hrl, hb, hrs⟩
      have e1 : (k : Int) - 1 = ((k - 1 : Nat) : Int) := by omega
      have hsh : CShl 1 ((k : Int) - 1) := by rw [e1]; exact shl_ok (by omega)
      have eL : (1 : Int) * 2 ^ (((k : Nat) : Int) - 1).toNat = ((2 ^ (k - 1) : Nat) : Int) := by rw [Int.one_mul, e1, Int.toNat_natCast]; push_cast; rfl
      have e8 : 2 ^ (k - 1) ≤ 8 := (Nat.pow_le_pow_right (by decide) (by omega) : 2 ^ (k - 1) ≤ 2 ^ 3)
      have ul : (rs.map V.ref).length ≤ 16 := by rw [List.length_map]; omega
      try walk_at "go"
      intro E hE
      rw [eL, Int.toNat_natCast]
      refine lc_range (lo := 0) (n := 2 ^ (k - 1)) (fun j H' => Kept (∃ bs : List Int, But p H2 H' ∧ PurseAt H' p (cap + 64 * 8 * i + 64 * j) ∧ H' E = some (.lst (bs.map V.int)) ∧ bs.length = j ∧ ∀ x ∈ bs, x = 0 ∨ x = 1)) ⟨[], same_but (same_new hE _), PurseAt.same B (same_new hE _) hp2, upd_same, rfl, fun x hx => absurd hx List.not_mem_nil⟩ ?_ ?_
      · rintro j H3 hj ⟨bs, B3, hp3, hE3, hbl, hb3⟩
        try walk_at "go"
        intro d H4 d0 d1 b4 p4
        have npE : p ≠ E := Ne.symm (purse_ne B hp2 hE)
        have hE4 := b4 _ _ (Ne.symm npE) hE3
        have bl : (bs.map V.int).length ≤ 16 := by rw [List.length_map]; omega
        try walk_at "go"
        obtain ⟨a, c, tn, h1, h2, h3⟩ := p4
        refine ⟨⟨bs ++ [d], (B3.trans b4).fr hE, ⟨a, c, tn, by rw [upd_ne npE]; exact h1, h2, by omega⟩, by rw [upd_same, List.map_append] <;> rfl, by rw [List.length_append, hbl] <;> rfl, fun x hx => ?_⟩⟩
        rcases List.mem_append.mp hx with z | z
        · exact hb3 x z
        · rw [List.mem_singleton.mp z]; omega
      · rintro H3 ⟨bs, B3, hp3, hE3, hbl, hb3⟩
        try walk_at "go"
        intro U hU
        generalize eH4 : upd _ U _ = H4
        have SH4 := newS eH4 hU
        have oU := newO eH4
        have hD4 := SH4 _ _ (B3 _ _ (Ne.symm npD) hD2)
        try walk_at "go"
        obtain ⟨a, c, tn, h1, h2, h3⟩ := hp3
        have k2 := but_keep B3 hp2
        have tk : ∀ r xs, H4 r = some (.tup xs) → upd H4 D (.lst (rs.map V.ref ++ [.ref U])) r = some (.tup xs) := fun r xs e => by rw [upd_ne (ne_of e hD4 (by intro z; cases z))]; exact e
        refine ⟨⟨_, _, ext s i bs, rs ++ [U], rfl, (B2.trans (B3.trans (same_but SH4))).fr hD, ⟨a, c, tn, by rw [upd_ne npD]; exact SH4 _ _ h1, h2, by omega⟩, by rw [upd_same, List.map_append] <;> rfl, by rw [List.length_append, hrl] <;> rfl, ext_bt hb hb3, fun j r hr => ?_⟩⟩
        by_cases cc : j < rs.length
        · rw [List.getElem?_append_left cc] at hr
          rw [row_ext_ne (by omega)]
          exact tk _ _ (SH4 _ _ (k2 _ _ (hrs j r hr)))
        · rw [List.getElem?_append_right (by omega)] at hr
          have hj : j = i := by
            have := (List.getElem?_eq_some_iff.mp hr).1
            have h5 : [U].length = 1 := rfl
            omega
          subst hj
          rw [hrl, Nat.sub_self] at hr
          cases (Option.some.inj hr)
          rw [row_ext hbl]
          exact tk _ _ oU
    · rintro σ H2 ⟨w3, w4, s, rs, rfl, B2, hp2, hD2, hrl, hb, hrs⟩
      try walk_at "go"
      intro U hU
      generalize eH3 : upd _ U _ = H3
      have SH3 := newS eH3 hU
      have oU := newO eH3
      obtain ⟨a, c, tn, h1, h2, h3⟩ := hp2
      exact q U s _ (B2.trans (same_but SH3)) ⟨a, c, tn, SH3 _ _ h1, h2, by omega⟩ ⟨rs, oU, hrl, fun j r hr => SH3 _ _ (hrs j r hr)⟩ hb
omit B in
theorem erase_map {α β : Type} {f : α → β} : ∀ {xs : List α} {i : Nat}, (xs.map f).eraseIdx i = (xs.eraseIdx i).map f
  | [], _ => rfl
  | _ :: _, 0 => rfl
  | x :: xs, i + 1 => by
    show f x :: (xs.map f).eraseIdx i = f x :: (xs.eraseIdx i).map f
    rw [erase_map]
omit B in
theorem erase_perm {α : Type} : ∀ {ls : List α} {j : Nat} {x : α}, ls[j]? = some x → (x :: ls.eraseIdx j).Perm ls
  | [], _, _, h => by simp at h
  | a :: ls, 0, x, h => by
    cases (Option.some.inj h)
    exact List.Perm.refl _
  | a :: ls, j + 1, x, h => by
    have ih := erase_perm (ls := ls) (j := j) (x := x) (by simpa using h)
    exact (List.Perm.swap a x _).trans (List.Perm.cons a ih)
/-- what stays while a row is mixed -/
def MixI (H : Hp) (p L0 L D : Addr) (cap : Nat) (ts : List Int) (m : Nat) (σ : L2.St) (H' : Hp) : Prop := ∃ ls us : List Int, σ = [some (.ref p), some (.ref L0), some (.ref L), some (.ref D)] ∧ But p H H' ∧ PurseAt H' p (cap + 64 * us.length) ∧ H' L = some (.lst (ls.map V.int)) ∧ H' D = some (.lst (us.map V.int)) ∧ (us ++ ls).Perm ts ∧ m = ls.length
/-! SPLIT -/
omit B in
theorem sdl_of {k : Nat} {ss : List Nat} (h : ss.length = 2 ^ k) : sdl k (fun i => ss.getD i 0) = ss := by
  refine List.ext_getElem? fun n => ?_
  unfold sdl
  rw [List.getElem?_map]
  by_cases c : n < 2 ^ k
  · rw [List.getElem?_range c]
    show some (ss.getD n 0) = _
    rw [List.getD_eq_getElem?_getD, List.getElem?_eq_getElem (by omega)] <;> rfl
  · rw [List.getElem?_eq_none (by rw [List.length_range]; omega), List.getElem?_eq_none (by omega)] <;> rfl
omit B in
theorem prs_at {k j : Nat} {g : Nat → Nat} (h : j < 2 ^ k) : (prs k g)[j]? = some (j, g j) := by
  unfold prs
  rw [List.getElem?_map, List.getElem?_range h] <;> rfl
omit B in
theorem prs_len {k : Nat} {g : Nat → Nat} : (prs k g).length = 2 ^ k := by unfold prs; rw [List.length_map, List.length_range]
/-! SPLIT -/
/-- the switch of a stage on a pair's way -/
def sn (k : Nat) (p : Nat × Nat) (j : Nat) : Int := nwo k (lline k p.1 p.2 j).toNat (j + 1)
def ky36 (j : Nat) (n : Int) : List Key := [.inl ((j + 1 : Nat) : Int), .inl n]
/-- the lines ahead and behind by which ways go through a switch -/
def thr (k : Nat) (ps : List (Nat × Nat)) (j : Nat) (n : Int) : List (Int × Int) := (ps.filter fun p => decide (sn k p j = n)).map fun p => (low k p.1 p.2 j, low k p.1 p.2 (j + 1))
/-- pairs of numbers that stand in a list -/
def PiAt (H : Hp) (ts : List Addr) (xs : List (Int × Int)) : Prop := ts.length = xs.length ∧ ∀ (j : Nat) (t : Addr) (x : Int × Int), ts[j]? = some t → xs[j]? = some x → H t = some (.tup [.int x.1, .int x.2])
structure Pd (H : Hp) (D : Addr) (k : Nat) (kvs : List (List Key × V)) (C : Nat → Int → List (Int × Int)) : Prop where
  at_ : H D = some (.dT kvs)
  keys : ∀ x ∈ kvs, ∃ (j : Nat) (n : Int), j < k ∧ x.1 = ky36 j n
  nd : (kvs.map fun x => x.1).Nodup
  no : ∀ j n, j < k → C j n = [] → valV kvs (ky36 j n) = none
  val : ∀ j n, j < k → C j n ≠ [] → ∃ (a : Addr) (ts : List Addr), valV kvs (ky36 j n) = some (.ref a) ∧ H a = some (.lst (ts.map V.ref)) ∧ PiAt H ts (C j n)
  inj : ∀ (x y : List Key) a, valV kvs x = some (.ref a) → valV kvs y = some (.ref a) → x = y
omit B in
theorem ky_inj {j j' : Nat} {n n' : Int} (e : ky36 j n = ky36 j' n') : j = j' ∧ n = n' := by
  have h1 := List.cons.inj e
  have h2 := Sum.inl.inj h1.1
  have h3 := Sum.inl.inj (List.cons.inj h1.2).1
  exact ⟨by omega, h3⟩
omit B in
theorem PiAt.keep {H H' : Hp} {ts : List Addr} {xs : List (Int × Int)} (h : PiAt H ts xs) (k : ∀ t ys, H t = some (.tup ys) → H' t = some (.tup ys)) : PiAt H' ts xs := ⟨h.1, fun j t x h1 h2 => k _ _ (h.2 j t x h1 h2)⟩
omit B in
theorem PiAt.snoc {H : Hp} {ts : List Addr} {xs : List (Int × Int)} {t : Addr} {x : Int × Int} (h : PiAt H ts xs) (ht : H t = some (.tup [.int x.1, .int x.2])) : PiAt H (ts ++ [t]) (xs ++ [x]) := by
  refine ⟨by rw [List.length_append, List.length_append, h.1] <;> rfl, fun j t' x' h1 h2 => ?_⟩
  by_cases c : j < ts.length
  · rw [List.getElem?_append_left c] at h1
    rw [List.getElem?_append_left (by rw [← h.1]; exact c)] at h2
    exact h.2 j t' x' h1 h2
  · rw [List.getElem?_append_right (by omega)] at h1
    rw [List.getElem?_append_right (by rw [← h.1]; omega), ← h.1] at h2
    have l1 := (List.getElem?_eq_some_iff.mp h1).1
    have l2 : [t].length = 1 := rfl
    obtain rfl : j = ts.length := by omega
    rw [Nat.sub_self] at h1 h2
    cases (Option.some.inj h1)
    cases (Option.some.inj h2)
    exact ht
omit B in
theorem Pd.old {H H' : Hp} {D a X : Addr} {k j : Nat} {n : Int} {kvs : List (List Key × V)} {C C' : Nat → Int → List (Int × Int)} {ts : List Addr} {x : Int × Int} (P : Pd H D k kvs C) (hj : j < k) (e : valV kvs (ky36 j n) = some (.ref a)) (ha : H a = some (.lst (ts.map V.ref))) (pt : PiAt H ts (C j n))
    (bt : But a H H') (hX : H X = some (.tup [.int x.1, .int x.2])) (o : H' a = some (.lst (ts.map V.ref ++ [.ref X]))) (h1 : C' j n = C j n ++ [x]) (h2 : ∀ j' n', ¬(j' = j ∧ n' = n) → C' j' n' = C j' n') : Pd H' D k kvs C' := by
  have kt : ∀ t ys, H t = some (.tup ys) → H' t = some (.tup ys) := fun t ys z => bt _ _ (ne_of z ha (by intro w; cases w)) z
  refine ⟨bt _ _ (ne_of P.at_ ha (by intro w; cases w)) P.at_, P.keys, P.nd, fun j' n' hj' z => ?_, fun j' n' hj' z => ?_, P.inj⟩
  · by_cases c : j' = j ∧ n' = n
    · obtain ⟨rfl, rfl⟩ := c
      rw [h1] at z
      exact absurd z (by simp)
    · rw [h2 j' n' c] at z
      exact P.no j' n' hj' z
  · by_cases c : j' = j ∧ n' = n
    · obtain ⟨rfl, rfl⟩ := c
      refine ⟨a, ts ++ [X], e, by rw [o, List.map_append] <;> rfl, ?_⟩
      rw [h1]
      exact (pt.keep kt).snoc (kt _ _ hX)
    · rw [h2 j' n' c] at z ⊢
      obtain ⟨a', ts', v1, v2, v3⟩ := P.val j' n' hj' z
      have na : a' ≠ a := fun w => by
        rw [w] at v1
        exact c (ky_inj (P.inj _ _ a v1 e))
      exact ⟨a', ts', v1, bt _ _ na v2, v3.keep kt⟩
omit B in
theorem Pd.new {H H' : Hp} {D E X : Addr} {k j : Nat} {n : Int} {kvs : List (List Key × V)} {C C' : Nat → Int → List (Int × Int)} {x : Int × Int} (P : Pd H D k kvs C) (hj : j < k) (e : valV kvs (ky36 j n) = none)
    (fr : ∀ y b, valV kvs y = some (.ref b) → b ≠ E) (nDE : D ≠ E) (kp : ∀ b o, b ≠ D → b ≠ E → H b = some o → H' b = some o) (hX : H' X = some (.tup [.int x.1, .int x.2])) (oD : H' D = some (.dT (putK kvs (ky36 j n) (.ref E)))) (oE : H' E = some (.lst [.ref X])) (hE : ∀ t ys, H t = some (.tup ys) → t ≠ E)
    (h1 : C' j n = C j n ++ [x]) (h2 : ∀ j' n', ¬(j' = j ∧ n' = n) → C' j' n' = C j' n') : Pd H' D k (putK kvs (ky36 j n) (.ref E)) C' := by
  have kt : ∀ t ys, H t = some (.tup ys) → H' t = some (.tup ys) := fun t ys z => kp _ _ (ne_of z P.at_ (by intro w; cases w)) (hE t ys z) z
  have c0 : C j n = [] := Decidable.byContradiction fun z => by
    obtain ⟨a, _, v1, _⟩ := P.val j n hj z
    rw [e] at v1
    cases v1
  have eq := putK_new (kvs := kvs) (k := ky36 j n) (.ref E) e
  refine ⟨oD, fun y hy => ?_, ?_, fun j' n' hj' z => ?_, fun j' n' hj' z => ?_, fun y z a hy hz => ?_⟩
  · rw [eq] at hy
    rcases List.mem_append.mp hy with w | w
    · exact P.keys y w
    · rw [List.mem_singleton.mp w]
      exact ⟨j, n, hj, rfl⟩
  · rw [eq, List.map_append, List.nodup_append]
    refine ⟨P.nd, by simp, fun y hy z hz w => ?_⟩
    obtain rfl : z = ky36 j n := List.mem_singleton.mp hz
    obtain ⟨q, hq, rfl⟩ := List.mem_map.mp hy
    have : (kvs.any fun kv => decide (kv.1 = ky36 j n)) = true := List.any_eq_true.mpr ⟨q, hq, decide_eq_true w⟩
    rw [valV_any, e] at this
    cases this
  · by_cases c : j' = j ∧ n' = n
    · obtain ⟨rfl, rfl⟩ := c
      rw [h1] at z
      exact absurd z (by simp)
    · rw [h2 j' n' c] at z
      rw [valV_put, if_neg fun w => c (ky_inj w)]
      exact P.no j' n' hj' z
  · by_cases c : j' = j ∧ n' = n
    · obtain ⟨rfl, rfl⟩ := c
      refine ⟨E, [X], by rw [valV_put, if_pos rfl], oE, ?_⟩
      rw [h1, c0]
      refine ⟨rfl, fun i t y q1 q2 => ?_⟩
      have l1 := (List.getElem?_eq_some_iff.mp q1).1
      have l2 : [X].length = 1 := rfl
      obtain rfl : i = 0 := by omega
      cases (Option.some.inj q1)
      cases (Option.some.inj q2)
      exact hX
    · rw [h2 j' n' c] at z ⊢
      obtain ⟨a', ts', v1, v2, v3⟩ := P.val j' n' hj' z
      refine ⟨a', ts', by rw [valV_put, if_neg fun w => c (ky_inj w)]; exact v1, kp _ _ (ne_of v2 P.at_ (by intro w; cases w)) (fr _ _ v1) v2, v3.keep kt⟩
  · rw [valV_put] at hy hz
    by_cases c : y = ky36 j n
    · rw [if_pos c] at hy
      by_cases c2 : z = ky36 j n
      · rw [c, c2]
      · rw [if_neg c2] at hz
        cases (Option.some.inj hy)
        exact absurd rfl (fr _ _ hz)
    · rw [if_neg c] at hy
      by_cases c2 : z = ky36 j n
      · rw [if_pos c2] at hz
        cases (Option.some.inj hz)
        exact absurd rfl (fr _ _ hy)
      · rw [if_neg c2] at hz
        exact P.inj y z a hy hz
omit B in
theorem tkS {α : Type} {xs : List α} {i : Nat} {x : α} (h : xs[i]? = some x) : xs.take (i + 1) = xs.take i ++ [x] := by
  rw [List.take_succ, h] <;> rfl
omit B in
theorem thr_snoc {k i j : Nat} {n : Int} {ps : List (Nat × Nat)} {p : Nat × Nat} (h : ps[i]? = some p) : thr k (ps.take (i + 1)) j n = if sn k p j = n then thr k (ps.take i) j n ++ [(low k p.1 p.2 j, low k p.1 p.2 (j + 1))] else thr k (ps.take i) j n := by
  unfold thr
  rw [tkS h, List.filter_append, List.map_append]
  by_cases c : sn k p j = n
  · rw [if_pos c, List.filter_cons, if_pos (decide_eq_true c)] <;> rfl
  · rw [if_neg c, List.filter_cons, if_neg (by simpa using c)]
    exact List.append_nil _
omit B in
theorem Pd.same {H H' : Hp} {D : Addr} {k : Nat} {kvs : List (List Key × V)} {C : Nat → Int → List (Int × Int)} (P : Pd H D k kvs C) (e : Same H H') : Pd H' D k kvs C := ⟨e _ _ P.at_, P.keys, P.nd, P.no, fun j n hj z => by
  obtain ⟨a, ts, v1, v2, v3⟩ := P.val j n hj z
  exact ⟨a, ts, v1, e _ _ v2, v3.keep fun t ys w => e _ _ w⟩, P.inj⟩
omit B in
theorem Pd.live {H : Hp} {D b : Addr} {k : Nat} {kvs : List (List Key × V)} {C : Nat → Int → List (Int × Int)} {y : List Key} (P : Pd H D k kvs C) (h : valV kvs y = some (.ref b)) : ∃ xs, H b = some (.lst xs) := by
  have h1 := valV_any y kvs
  rw [h] at h1
  obtain ⟨q, hq, e⟩ := List.any_eq_true.mp h1
  have e := of_decide_eq_true e
  obtain ⟨j, n, hj, e2⟩ := P.keys q hq
  rw [e] at e2
  subst e2
  have ne : C j n ≠ [] := fun z => by
    rw [P.no j n hj z] at h
    cases h
  obtain ⟨a, ts, v1, v2, _⟩ := P.val j n hj ne
  cases (Option.some.inj (h.symm.trans v1))
  exact ⟨_, v2⟩
omit B in
theorem thr_len {k j : Nat} {n : Int} {ps : List (Nat × Nat)} : (thr k ps j n).length ≤ ps.length := by
  unfold thr
  rw [List.length_map]
  exact List.length_filter_le _ _
def spPassed (K : PySem.W.Frag) : Sp := fun vs H Q _ => ∃ (k : Nat) (T : Addr) (ts : List Addr) (ps : List (Nat × Nat)), vs = [.int k, .ref T] ∧ k ≤ 4 ∧ PrT H k T ts ps ∧ ps.length ≤ 16 ∧ ∀ D kvs H', Same H H' → Pd H' D k kvs (thr k ps) → Q (.ref D) H'
theorem k__law_passed (D : Df K mg "_law_passed" s__law_passed ["_law_k", "_law_pairs"]) (D_way : Dn P w K mg base 4 "way" ["k", "hand", "side"] spWay) (D_switches : Dn P w K mg base 5 "switches" ["k", "hand", "side"] spSwitches) : Dn P w K mg base 6 "_law_passed" ["_law_k", "_law_pairs"] (spPassed K) := by
  refine D.ok fun f fd F => okG0 F sc__law_passed (fun vs H Q E h => ?_) (fun cdv A outer s H vs Q E hr h => ⟨_, (pss_cons (ps_set (i := 2) sc__law_passed.nd rfl (Or.inl rfl) pe_dnewT)
    (pss_cons (ps_for PassesOwn.never rfl (kk (K := K) (F := fun K => iTup K _) (P := PI _ _ _) (pi_tup (pv 1))) (kk (K := K) (F := fun K => gTup K 2 _) (P := PG _ _) (pg_tup rfl (pgs_cons (pg_name (i := 3) sc__law_passed.nd rfl (Or.inl rfl)) (pgs_cons (pg_name (i := 4) sc__law_passed.nd rfl (Or.inl rfl)) pgs_nil))))
      (pss_cons (ps_set (i := 5) sc__law_passed.nd rfl (Or.inl rfl) (pe_cD D_way (hr.less (by decide)) rfl (pa_cons (pv 0) (pa_cons (pv 3) (pa_cons (pv 4) pa_nil)))))
      (pss_one (ps_for PassesOwn.never rfl (kk (K := K) (F := fun K => iTup K _) (P := PI _ _ _) (pi_tup (pe_cD D_switches (hr.less (by decide)) rfl (pa_cons (pv 0) (pa_cons (pv 3) (pa_cons (pv 4) pa_nil)))))) (kk (K := K) (F := fun K => gTup K 2 _) (P := PG _ _) (pg_tup rfl (pgs_cons (pg_name (i := 6) sc__law_passed.nd rfl (Or.inl rfl)) (pgs_cons (pg_name (i := 7) sc__law_passed.nd rfl (Or.inl rfl)) pgs_nil))))
       (pss_one (ps_expr (kk (K := K) (F := fun K => tBM K "list" _ _ _) (P := PE _ _) (pe_bm PySem.F.plainAttrs_list PySem.F.slot_list_append PySem.F.type_list_append mt_append (kk (K := K) (F := fun K => tBM K "dict" _ _ _) (P := PE _ _) (pe_bm PySem.F.plainAttrs_dict PySem.F.slot_dict_setdefault PySem.F.type_dict_setdefault (mt_setdT hr.u1) (pv 2) (pa_cons (pe_tup (pa_cons (pv 6) (pa_cons (pv 7) pa_nil))) (pa_cons (pe_lst pa_nil) pa_nil)))) (pa_cons (pe_tup (pa_cons (pe_ix (kk (K := K) (F := rIxT) (P := IxR _) ix_tup) (pv 5) (pe_op op_sub (pv 6) pe_int) (fun _ _ => rfl)) (pa_cons (pe_ix (kk (K := K) (F := rIxT) (P := IxR _) ix_tup) (pv 5) (pv 6) (fun _ _ => rfl)) pa_nil))) pa_nil)))))))))
    (pss_one (ps_ret (pv 2))))), ?_⟩)
  · obtain ⟨k, T, ts, ps, rfl, _⟩ := h; rfl
  · obtain ⟨k, T, ts, ps, rfl, hk, hP, l16, q⟩ := h
    try walk_at "go"
    intro D hD
    generalize eH1 : upd _ D _ = H1
    have SH1 := newS eH1 hD
    have oD := newO eH1
    have at1 := SH1 _ _ hP.tup
    try walk_at "go"
    refine for_tup (K := K) (a := T) (xs := ts.map V.ref) (fun i σ H' => Kept (∃ (w3 w4 w5 w6 w7 : Option V) (kvs : List (List Key × V)), σ = [some (.int (k : Nat)), some (.ref T), some (.ref D), w3, w4, w5, w6, w7] ∧ Same H H' ∧ Pd H' D k kvs (thr k (ps.take i)) ∧ kvs.length ≤ 4 * i ∧ ∀ x a, valV kvs x = some (.ref a) → H a = none)) ⟨_, _, _, _, _, [], rfl, SH1, ?_, Nat.zero_le _, fun x a h => by cases h⟩ (fun i σ H' _ h => by obtain ⟨_, _, _, _, _, _, _, S, _⟩ := h.ex; exact SqT.of (S _ _ hP.tup)) ?_ ?_
    · exact ⟨oD, fun x h => absurd h List.not_mem_nil, List.nodup_nil, fun j n _ _ => rfl, fun j n _ h => absurd rfl h, fun x y a h => by cases h⟩
    · rintro i x σ H2 hx ⟨w3, w4, w5, w6, w7, kvs, rfl, S2, P2, l2, f2⟩
      obtain ⟨t, p, rfl, ep, ht, hp1, hp2⟩ := hP.get S2 hx
      have hi : i < ps.length := (List.getElem?_eq_some_iff.mp ep).1
      try walk_at "go"
      intro W H3 S3 oW
      try walk_at "go"
      intro U H4 S4 hU
      obtain ⟨us, u1, u2, u3⟩ := hU
      try walk_at "go"
      have S24 := S3.trans S4
      have P4 : Pd H4 D k kvs (thr k (ps.take i)) := ⟨S24 _ _ P2.at_, P2.keys, P2.nd, P2.no, fun j n hj z => by
        obtain ⟨a, ts, v1, v2, v3⟩ := P2.val j n hj z
        exact ⟨a, ts, v1, S24 _ _ v2, v3.keep fun t ys w => S24 _ _ w⟩, P2.inj⟩
      have oW4 := S4 _ _ oW
      refine for_tup (K := K) (a := U) (xs := us.map V.ref) (fun j σ H' => Kept (∃ (w6 w7 : Option V) (kvs : List (List Key × V)), σ = [some (.int (k : Nat)), some (.ref T), some (.ref D), some (.int (p.1 : Nat)), some (.int (p.2 : Nat)), some (.ref W), w6, w7] ∧ Same H H' ∧ (∀ t ys, H4 t = some (.tup ys) → H' t = some (.tup ys)) ∧ Pd H' D k kvs (fun j' n => thr k (ps.take (if j' < j then i + 1 else i)) j' n) ∧ kvs.length ≤ 4 * i + j ∧ ∀ x a, valV kvs x = some (.ref a) → H a = none)) ⟨_, _, kvs, rfl, S2.trans S24, fun _ _ z => z, ?_, by omega, f2⟩ (fun i σ H' _ h => by obtain ⟨_, _, _, _, _, tk, _⟩ := h.ex; exact SqT.of (tk _ _ u1)) ?_ ?_
      · have e : (fun j' n => thr k (ps.take (if j' < 0 then i + 1 else i)) j' n) = thr k (ps.take i) := by
          funext j' n
          rw [if_neg (Nat.not_lt_zero j')]
        rw [e]
        exact P4
      · rintro j v σ H5 hv ⟨w6', w7', kvs5, rfl, S5, tk5, P5, l5, f5⟩
        rw [List.getElem?_map] at hv
        obtain ⟨u, hu, rfl⟩ := Option.map_eq_some_iff.mp hv
        have hj : j < k := by rw [← u2]; exact (List.getElem?_eq_some_iff.mp hu).1
        have ou : H5 u = some (.tup [.int ((j + 1 : Nat) : Int), .int (sn k p j)]) := tk5 _ _ (u3 j u hu)
        generalize esn : sn k p j = n at ou
        have at5 := P5.at_
        have tyD : tyV K "dict" (.ref D) H5 := .inr (.inr (.inl ⟨rfl, .inr ⟨_, at5⟩⟩))
        have oW5 := tk5 _ _ oW4
        try walk_at "go"
        intro B6 hB6
        generalize eH6 : upd _ B6 _ = H6
        have SH6 := newS eH6 hB6
        have oB6 := newO eH6
        try walk_at "go"
        intro E hE
        generalize eH7 : upd _ E _ = H7
        have SH7 := newS eH7 hE
        have oE := newO eH7
        have S57 := SH6.trans SH7
        have oB7 : H7 B6 = some (.tup ((ky36 j n).map kV)) := SH7 _ _ oB6
        have oW7 := S57 _ _ oW5
        have hl7 : kvs5.length < sizeLine := Nat.lt_of_lt_of_le (show kvs5.length < 100 by omega) (by decide +kernel)
        have at7 := S57 _ _ at5
        have hEn : H E = none := none_back (S5.trans SH6) hE
        have g1 : atI (((List.range (k + 1)).map (low k p.1 p.2)).map V.int) (((j + 1 : Nat) : Int) - 1) = some (.int (low k p.1 p.2 j)) := by
          rw [show ((j + 1 : Nat) : Int) - 1 = (j : Int) by omega]
          exact atI_nat (by rw [List.getElem?_map, List.getElem?_map, List.getElem?_range (by omega)] <;> rfl)
        have g2 : atI (((List.range (k + 1)).map (low k p.1 p.2)).map V.int) ((j + 1 : Nat) : Int) = some (.int (low k p.1 p.2 (j + 1))) := atI_nat (by rw [List.getElem?_map, List.getElem?_map, List.getElem?_range (by omega)] <;> rfl)
        have c1 : (fun j' n => thr k (ps.take (if j' < j + 1 then i + 1 else i)) j' n) j n = (fun j' n => thr k (ps.take (if j' < j then i + 1 else i)) j' n) j n ++ [(low k p.1 p.2 j, low k p.1 p.2 (j + 1))] := by
          show thr k (ps.take (if j < j + 1 then i + 1 else i)) j n = thr k (ps.take (if j < j then i + 1 else i)) j n ++ _
          rw [if_pos (Nat.lt_succ_self j), if_neg (Nat.lt_irrefl j), thr_snoc ep, if_pos esn]
        have c2 : ∀ j' n', ¬(j' = j ∧ n' = n) → (fun j' n => thr k (ps.take (if j' < j + 1 then i + 1 else i)) j' n) j' n' = (fun j' n => thr k (ps.take (if j' < j then i + 1 else i)) j' n) j' n' := fun j' n' e => by
          show thr k (ps.take (if j' < j + 1 then i + 1 else i)) j' n' = thr k (ps.take (if j' < j then i + 1 else i)) j' n'
          by_cases q1 : j' = j
          · subst q1
            rw [if_pos (Nat.lt_succ_self j'), if_neg (Nat.lt_irrefl j'), thr_snoc ep, if_neg fun z => e ⟨rfl, z.symm.trans esn⟩]
          · by_cases q2 : j' < j
            · rw [if_pos q2, if_pos (by omega)]
            · rw [if_neg q2, if_neg (by omega)]
        have P7 := P5.same S57
        refine ⟨D, kvs5, ky36 j n, B6, .ref E, rfl, rfl, at7, oB7, hl7, fun v hv => ?_, fun hv => ?_⟩
        · have cne : (fun j' n => thr k (ps.take (if j' < j then i + 1 else i)) j' n) j n ≠ [] := fun z => by
            rw [P7.no j n hj z] at hv
            cases hv
          obtain ⟨a, ts2, v1, v2, v3⟩ := P7.val j n hj cne
          obtain rfl : v = .ref a := Option.some.inj (hv.symm.trans v1)
          have tyA : tyV K "list" (.ref a) H7 := .inl ⟨rfl, _, SqL.of v2⟩
          have ul : (ts2.map V.ref).length ≤ 100 := by
            rw [List.length_map, v3.1]
            show (thr k (ps.take (if j < j then i + 1 else i)) j n).length ≤ 100
            rw [if_neg (Nat.lt_irrefl j)]
            have h1 := thr_len (k := k) (j := j) (n := n) (ps := ps.take i)
            rw [List.length_take] at h1
            omega
          try walk_at "go"
          intro X hX
          generalize eH8 : upd _ X _ = H8
          have SH8 := newS eH8 hX
          have oX := newO eH8
          have v28 := SH8 _ _ v2
          try walk_at "go"
          generalize eH9 : upd H8 a (HO.lst (ts2.map V.ref ++ [.ref X])) = H9
          have BH9 : But a H8 H9 := eH9 ▸ But.upd
          have oH9 : H9 a = some (HO.lst (ts2.map V.ref ++ [.ref X])) := eH9 ▸ upd_same
          have S9 : Same H H9 := fun b o h => BH9 _ _ (ne_of_none h (f5 _ _ v1)) ((S5.trans (S57.trans SH8)) _ _ h)
          have tk9 : ∀ t ys, H4 t = some (.tup ys) → H9 t = some (.tup ys) := fun t ys z => by
            have z8 := SH8 _ _ (S57 _ _ (tk5 _ _ z))
            exact BH9 _ _ (ne_of z8 v28 (by intro w; cases w)) z8
          exact ⟨⟨_, _, kvs5, rfl, S9, tk9, (P7.same SH8).old hj v1 v28 (v3.keep fun t ys z => SH8 _ _ z) BH9 oX oH9 c1 c2, by omega, f5⟩⟩
        · have tyA : tyV K "list" (.ref E) (upd H7 D (.dT (putK kvs5 (ky36 j n) (.ref E)))) := .inl ⟨rfl, _, SqL.of (by rw [upd_ne (ne_of oE at7 (by intro w; cases w))]; exact oE)⟩
          have nED : E ≠ D := ne_of oE at7 (by intro w; cases w)
          generalize eH8 : upd H7 D (HO.dT (putK kvs5 (ky36 j n) (.ref E))) = H8
          have BH8 : But D H7 H8 := eH8 ▸ But.upd
          have oH8 : H8 D = some (HO.dT (putK kvs5 (ky36 j n) (.ref E))) := eH8 ▸ upd_same
          have oE8 := BH8 _ _ nED oE
          have oW8 := BH8 _ _ (ne_of oW7 at7 (by intro w; cases w)) oW7
          try walk_at "go"
          intro X hX
          generalize eH9 : upd _ X _ = H9
          have SH9 := newS eH9 hX
          have oX := newO eH9
          have oE9 := SH9 _ _ oE8
          try walk_at "go"
          generalize eH10 : upd H9 E (HO.lst ([] ++ [V.ref X])) = H10
          have BH10 : But E H9 H10 := eH10 ▸ But.upd
          have oH10 : H10 E = some (HO.lst ([] ++ [V.ref X])) := eH10 ▸ upd_same
          have kp : ∀ b o, b ≠ D → b ≠ E → H7 b = some o → H10 b = some o := fun b o n1 n2 h => BH10 _ _ n2 (SH9 _ _ (BH8 _ _ n1 h))
          have S10 : Same H H10 := fun b o h => kp _ _ (ne_of_none h hD) (ne_of_none h hEn) ((S5.trans S57) _ _ h)
          have tk10 : ∀ t ys, H4 t = some (.tup ys) → H10 t = some (.tup ys) := fun t ys z => by
            have z7 := S57 _ _ (tk5 _ _ z)
            exact kp _ _ (ne_of z7 at7 (by intro w; cases w)) (ne_of z7 oE (by intro w; cases w)) z7
          have hl8 := length_putK kvs5 (ky36 j n) (.ref E)
          refine ⟨⟨_, _, putK kvs5 (ky36 j n) (.ref E), rfl, S10, tk10, P7.new hj hv (fun y b h z => ?_) (Ne.symm nED) kp (BH10 _ _ (ne_of oX oE9 (by intro w; cases w)) oX) (BH10 _ _ (Ne.symm nED) (SH9 _ _ oH8)) oH10 (fun t ys z => ne_of z oE (by intro w; cases w)) c1 c2, by omega, fun x a h => ?_⟩⟩
          · obtain ⟨xs, hb⟩ := (P5.same SH6).live h
            rw [z, hE] at hb
            cases hb
          · rw [valV_put] at h
            by_cases c : x = ky36 j n
            · rw [if_pos c] at h
              cases (Option.some.inj h)
              exact hEn
            · rw [if_neg c] at h
              exact f5 x a h
      rintro σ H5 ⟨w6', w7', kvs5, rfl, S5, tk5, P5, l5, f5⟩
      rw [List.length_map, u2] at P5 l5
      refine ⟨⟨_, _, _, _, _, kvs5, rfl, S5, ⟨P5.at_, P5.keys, P5.nd, fun j n hj z => ?_, fun j n hj z => ?_, P5.inj⟩, by omega, f5⟩⟩
      · refine P5.no j n hj ?_
        show thr k (ps.take (if j < k then i + 1 else i)) j n = []
        rw [if_pos hj]
        exact z
      · have := P5.val j n hj (by
          show ¬ thr k (ps.take (if j < k then i + 1 else i)) j n = []
          rw [if_pos hj]
          exact z)
        obtain ⟨a, ts, v1, v2, v3⟩ := this
        refine ⟨a, ts, v1, v2, ?_⟩
        have e : thr k (ps.take (if j < k then i + 1 else i)) j n = thr k (ps.take (i + 1)) j n := by rw [if_pos hj]
        rw [← e]
        exact v3
    rintro σ H2 ⟨w3, w4, w5, w6, w7, kvs, rfl, S2, P2, l2, f2⟩
    try walk_at "go"
    rw [List.length_map, hP.pts.1, List.take_length] at P2
    exact q D kvs H2 S2 P2
/-! SPLIT -/
def spTwo36 (K : PySem.W.Frag) : Sp := fun vs H Q _ => ∃ (L : Addr) (c : Int) (t1 t2 : Addr) (x1 y1 x2 y2 : Int), vs = [.ref L, .int c] ∧ H L = some (.lst [.ref t1, .ref t2]) ∧ H t1 = some (.tup [.int x1, .int y1]) ∧ H t2 = some (.tup [.int x2, .int y2]) ∧ x1 ≠ x2 ∧ y1 ≠ y2 ∧ (if x1 = y1 then 0 else 1) = c ∧ (if x2 = y2 then 0 else 1) = c ∧ ∀ H', Same H H' → Q (.bl true) H'
theorem k__law_are_two (D : Df K mg "_law_are_two" s__law_are_two ["_law_lines", "_law_crossed"]) : Dn P w K mg base 1 "_law_are_two" ["_law_lines", "_law_crossed"] (spTwo36 K) := by
  refine D.ok fun f fd F => okG0 F sc__law_are_two (fun vs H Q E h => ?_) (fun cdv A outer s H vs Q E hr h => ⟨_, (pss_cons (ps_if (PW.pt (pw_or (pt_cmpR op_ne (pe_callB (lenK (K := K)) (by rfl) B.len_ (by decide +kernel) (pa_cons (pv 0) pa_nil)) pe_int (nomark _)) (pw_or (pt_cmpR op_eq (pe_ix (kk (K := K) (F := rIxT) (P := IxR _) ix_tup) (pe_ix (kk (K := K) (F := rIxL) (P := IxR _) ix_list) (pv 0) pe_int (fun _ _ => rfl)) pe_int (fun _ _ => rfl)) (pe_ix (kk (K := K) (F := rIxT) (P := IxR _) ix_tup) (pe_ix (kk (K := K) (F := rIxL) (P := IxR _) ix_list) (pv 0) pe_int (fun _ _ => rfl)) pe_int (fun _ _ => rfl)) (nomark _)) (pw_or1 (pt_cmpR op_eq (pe_ix (kk (K := K) (F := rIxT) (P := IxR _) ix_tup) (pe_ix (kk (K := K) (F := rIxL) (P := IxR _) ix_list) (pv 0) pe_int (fun _ _ => rfl)) pe_int (fun _ _ => rfl)) (pe_ix (kk (K := K) (F := rIxT) (P := IxR _) ix_tup) (pe_ix (kk (K := K) (F := rIxL) (P := IxR _) ix_list) (pv 0) pe_int (fun _ _ => rfl)) pe_int (fun _ _ => rfl)) (nomark _))))))
      (pss_one (ps_ret pe_bl))
      pss_nil)
    (pss_one (ps_ret (pe_cmpR (kk (K := K) (F := rEqD) (P := OpR _ _) (op_eqD hr.units)) (pe_lc (own := [("_law_ahead", 2), ("_law_behind", 3)]) (tt := tYes) rfl sc__law_are_two.nd (kk (K := K) (F := fun K => iList K _) (P := PI _ _ _) (pi_list (pv 0))) (blkOk_by (own := [("_law_ahead", 2), ("_law_behind", 3)]) (N := ["_law_lines", "_law_crossed", "_law_ahead", "_law_behind"]) (sc := defScope s__law_are_two) (by decide +kernel)) (fun _ _ _ _ _ => (kk (K := K) (F := fun K => gTup K 2 _) (P := PG _ _) (pg_tup rfl (pgs_cons (pg_name (i := 2) sc__law_are_two.nd rfl (Or.inl rfl)) (pgs_cons (pg_name (i := 3) sc__law_are_two.nd rfl (Or.inl rfl)) pgs_nil))))) (fun _ _ _ _ _ => pts_nil) (fun _ _ _ _ _ => (pe_callTy call_int1 (by rfl) B.int_ (by decide +kernel) (pa_cons (pe_cmpR op_ne (pv 2) (pv 3) (nomark _)) pa_nil)))) (pe_lst (pa_cons (pv 1) (pa_cons (pv 1) pa_nil))) (nomark _))))), ?_⟩)
  · obtain ⟨L, c, t1, t2, x1, y1, x2, y2, rfl, _⟩ := h; rfl
  · obtain ⟨L, c, t1, t2, x1, y1, x2, y2, rfl, hL, h1, h2, nx, ny, e1, e2, q⟩ := h
    have i0 : atI [V.ref t1, .ref t2] 0 = some (.ref t1) := rfl
    have i1 : atI [V.ref t1, .ref t2] 1 = some (.ref t2) := rfl
    have j0 : atI [V.int x1, .int y1] 0 = some (.int x1) := rfl
    have j1 : atI [V.int x1, .int y1] 1 = some (.int y1) := rfl
    have k0 : atI [V.int x2, .int y2] 0 = some (.int x2) := rfl
    have k1 : atI [V.int x2, .int y2] 1 = some (.int y2) := rfl
    try walk_at "go"
    refine ifF (decide_eq_false fun z => nx (V.int.inj z)) ?_
    try walk_at "go"
    refine ifF (decide_eq_false fun z => ny (V.int.inj z)) ?_
    try walk_at "go"
    intro E hE
    refine lc_list (K := K) (a := L) (xs := [.ref t1, .ref t2]) (fun i H' => Kept (Same H H' ∧ H' E = some (.lst ((List.replicate i c).map V.int)))) ⟨same_new hE _, upd_same⟩ (fun i H' _ h => SqL.of (h.ex.1 _ _ hL)) ?_ ?_
    · rintro i v H3 hv ⟨S3, hE3⟩
      have hi : i < 2 := (List.getElem?_eq_some_iff.mp hv).1
      obtain ⟨t, x, y, rfl, ht, ec⟩ : ∃ (t : Addr) (x y : Int), v = .ref t ∧ H3 t = some (.tup [.int x, .int y]) ∧ (if x = y then 0 else 1) = c := by
        rcases (show i = 0 ∨ i = 1 by omega) with rfl | rfl
        · exact ⟨t1, x1, y1, (Option.some.inj hv).symm, S3 _ _ h1, e1⟩
        · exact ⟨t2, x2, y2, (Option.some.inj hv).symm, S3 _ _ h2, e2⟩
      have ul : ((List.replicate i c).map V.int).length ≤ 100 := by rw [List.length_map, List.length_replicate]; omega
      try walk_at "go"
      refine .inr ⟨_, rfl, ?_⟩
      try walk_at "go"
      refine ⟨⟨but_same hE S3 But.upd, ?_⟩⟩
      rw [upd_same, List.replicate_succ', List.map_append]
      refine congrArg (fun z => some (HO.lst ((List.replicate i c).map V.int ++ [V.int z]))) ?_
      rw [← ec]
      by_cases q : x = y
      · subst q
        simp
      · rw [if_neg q]
        simp [q]
    rintro H3 ⟨S3, hE3⟩
    try walk_at "go"
    intro F hF
    generalize eH4 : upd _ F _ = H4
    have SH4 := newS eH4 hF
    have oF := newO eH4
    have hE4 := SH4 _ _ hE3
    have q4 := q H4 (S3.trans SH4)
    have oF' : H4 F = some (.lst ([c, c].map V.int)) := oF
    have hE4' : H4 E = some (.lst ([c, c].map V.int)) := hE4
    have d1 := lst_dp (K := K) (SqL.of hE4')
    have d2 := lst_dp (K := K) (SqL.of oF')
    have sh : SeqAt.shaped (.list ([c, c].map PyData.int)) = true := (Ly.lstI).sh
    rw [← (Ly.lstI (ns := [c, c])).refl] at q4
    exact ⟨_, _, d1, d2, sh, sh, q4⟩
omit B in
theorem two_lines : ∀ k, k < 5 → ∀ j, j < k → ∀ n, n < 2 ^ (k - 1) → ((List.range (2 ^ k)).filter fun l => decide (nwo k l (j + 1) = (n : Nat))).length = 2 := by decide +kernel
omit B in
theorem stp_ne : ∀ k, k < 5 → ∀ l : Nat, l < 2 ^ k → ∀ j, j < k → stp k l (j + 1) 1 ≠ (l : Nat) := by decide +kernel
omit B in
theorem ndl {α : Type} [DecidableEq α] : ∀ {xs ys : List α}, xs.Nodup → (∀ y ∈ xs, y ∈ ys) → xs.length ≤ ys.length
  | [], _, _, _ => Nat.zero_le _
  | x :: xs, ys, nd, h => by
    rw [List.nodup_cons] at nd
    have hx := h x List.mem_cons_self
    have h2 : ∀ y ∈ xs, y ∈ ys.erase x := fun y hy => (List.mem_erase_of_ne (fun z : y = x => nd.1 (by rw [← z]; exact hy))).mpr (h y (List.mem_cons_of_mem _ hy))
    have h3 := ndl nd.2 h2
    rw [List.length_erase_of_mem hx] at h3
    have h4 := List.length_pos_of_mem hx
    show xs.length + 1 ≤ ys.length
    omega
omit B in
theorem nd_pm {α : Type} [DecidableEq α] {l m : List α} (a : l.Nodup) (b : m.Nodup) (h : ∀ x, x ∈ l ↔ x ∈ m) : l.Perm m := by
  rw [List.perm_iff_count]
  intro x
  by_cases c : x ∈ l
  · rw [a.count, b.count, if_pos c, if_pos ((h x).mp c)]
  · rw [a.count, b.count, if_neg c, if_neg fun z => c ((h x).mpr z)]
omit B in
theorem full_pm {N : Nat} {xs : List Nat} (nd : xs.Nodup) (h : ∀ x ∈ xs, x < N) (l : xs.length = N) : xs.Perm (List.range N) := by
  refine nd_pm nd List.nodup_range fun y => ⟨fun z => List.mem_range.mpr (h y z), fun z => Decidable.byContradiction fun c => ?_⟩
  have := ndl (xs := y :: xs) (ys := List.range N) (List.nodup_cons.mpr ⟨c, nd⟩) (fun w hw => by
    rcases List.mem_cons.mp hw with rfl | q
    · exact z
    · exact List.mem_range.mpr (h w q))
  rw [List.length_range, List.length_cons] at this
  omega
omit B in
/-- just two ways go through each switch -/
theorem thr_two {k j n : Nat} {s : Nat → Nat → Int} (hk : k < 5) (hs : Bt s) (hj : j < k) (hn : n < 2 ^ (k - 1)) : ∃ x1 y1 x2 y2 : Int, thr k (prs k fun h => la k s h k) j (n : Nat) = [(x1, y1), (x2, y2)] ∧ x1 ≠ x2 ∧ y1 ≠ y2 ∧ (if x1 = y1 then 0 else 1) = s j n ∧ (if x2 = y2 then 0 else 1) = s j n := by
  have gi : ∀ h, h < 2 ^ k → la k s h k < 2 ^ k := fun h hh => la_in hk hs hh k (Nat.le_refl _)
  have lo : ∀ h, h < 2 ^ k → ∀ i, i ≤ k → low k h (la k s h k) i = ((la k s h i : Nat) : Int) := fun h hh i hi => (la_low hk hs hh rfl i hi).symm
  have se : ∀ h, h < 2 ^ k → sn k (h, la k s h k) j = nwo k (la k s h j) (j + 1) := fun h hh => by
    unfold sn
    rw [← low_is k hk h hh _ (gi h hh) j (by omega), lo h hh j (by omega), Int.toNat_natCast]
  obtain ⟨L, eL⟩ : ∃ L : List Nat, L = ((List.range (2 ^ k)).filter fun h => decide (nwo k (la k s h j) (j + 1) = (n : Nat))).map fun h => la k s h j := ⟨_, rfl⟩
  have e1 : thr k (prs k fun h => la k s h k) j (n : Nat) = L.map fun l => (((l : Nat) : Int), stp k l (j + 1) (s j n)) := by
    unfold thr prs
    rw [eL, List.filter_map, List.map_map, List.map_map]
    have f1 : (List.range (2 ^ k)).filter ((fun p => decide (sn k p j = (n : Nat))) ∘ fun h => (h, la k s h k)) = (List.range (2 ^ k)).filter fun h => decide (nwo k (la k s h j) (j + 1) = (n : Nat)) := by
      refine List.filter_congr fun h hh => ?_
      show decide (sn k (h, la k s h k) j = (n : Nat)) = _
      rw [se h (List.mem_range.mp hh)]
    rw [f1]
    refine List.map_congr_left fun h hh => ?_
    obtain ⟨h1, h2⟩ := List.mem_filter.mp hh
    have h1 := List.mem_range.mp h1
    have h2 : nwo k (la k s h j) (j + 1) = (n : Nat) := of_decide_eq_true h2
    show (low k h (la k s h k) j, low k h (la k s h k) (j + 1)) = (((la k s h j : Nat) : Int), stp k (la k s h j : Nat) (j + 1) (s j n))
    rw [lo h h1 j (by omega), lo h h1 (j + 1) (by omega)]
    refine congrArg (fun z => (((la k s h j : Nat) : Int), z)) ?_
    have sb := (stp_bit hk (la_in hk hs h1 j (by omega)) hj (hs j (nwo k (la k s h j) (j + 1)).toNat)).1
    have : ((la k s h (j + 1) : Nat) : Int) = stp k (la k s h j : Nat) (j + 1) (s j (nwo k (la k s h j) (j + 1)).toNat) := Int.toNat_of_nonneg sb
    rw [this, h2, Int.toNat_natCast]
  have nd0 : ((List.range (2 ^ k)).map fun h => la k s h j).Nodup := by
    rw [List.nodup_iff_pairwise_ne, List.pairwise_map]
    refine List.pairwise_lt_range.imp_of_mem fun {a b} ha hb h z => ?_
    have := la_inj hk hs (List.mem_range.mp ha) (List.mem_range.mp hb) j (by omega) z
    omega
  have eL2 : L = ((List.range (2 ^ k)).map fun h => la k s h j).filter fun l => decide (nwo k l (j + 1) = (n : Nat)) := by
    rw [eL, List.filter_map] <;> rfl
  have pm : ((List.range (2 ^ k)).map fun h => la k s h j).Perm (List.range (2 ^ k)) := full_pm nd0 (fun x hx => by
    obtain ⟨h, hh, rfl⟩ := List.mem_map.mp hx
    exact la_in hk hs (List.mem_range.mp hh) j (by omega)) (by rw [List.length_map, List.length_range])
  have ll : L.length = 2 := by
    rw [eL2, (pm.filter _).length_eq]
    exact two_lines k hk j hj n hn
  have nd : L.Nodup := by rw [eL2]; exact nd0.filter _
  have mL : ∀ l ∈ L, l < 2 ^ k := fun l hl => by
    rw [eL] at hl
    obtain ⟨h, hh, rfl⟩ := List.mem_map.mp hl
    exact la_in hk hs (List.mem_range.mp (List.mem_filter.mp hh).1) j (by omega)
  match L, ll, nd, mL, e1 with
  | [a, b], _, nd, mL, e1 =>
    have ne : a ≠ b := fun z => by
      rw [z] at nd
      simp at nd
    have ha := mL a List.mem_cons_self
    have hb := mL b (List.mem_cons_of_mem _ List.mem_cons_self)
    refine ⟨_, _, _, _, e1, fun z => ne (by omega), ?_, ?_, ?_⟩
    · rcases hs j n with c | c <;> rw [c]
      · rw [stp_zero k hk a ha j hj, stp_zero k hk b hb j hj]
        exact fun z => ne (by omega)
      · intro z
        have z1 := stp_two k hk a ha j hj
        have z2 := stp_two k hk b hb j hj
        rw [z, z2] at z1
        exact ne (by omega)
    · rcases hs j n with c | c <;> rw [c]
      · rw [stp_zero k hk a ha j hj, if_pos rfl]
      · rw [if_neg fun z => stp_ne k hk a ha j hj z.symm]
    · rcases hs j n with c | c <;> rw [c]
      · rw [stp_zero k hk b hb j hj, if_pos rfl]
      · rw [if_neg fun z => stp_ne k hk b hb j hj z.symm]
omit B in
/-- each switch of each stage is there -/
theorem pd_len {H : Hp} {D : Addr} {k : Nat} {kvs : List (List Key × V)} {s : Nat → Nat → Int} (hk : k < 5) (hs : Bt s) (P : Pd H D k kvs (thr k (prs k fun h => la k s h k))) : kvs.length = k * 2 ^ (k - 1) := by
  have N0 : 0 < 2 ^ (k - 1) := Nat.two_pow_pos _
  have inn : ∀ x ∈ kvs, ∃ j n : Nat, j < k ∧ n < 2 ^ (k - 1) ∧ x.1 = ky36 j (n : Nat) := fun x hx => by
    obtain ⟨j, n, hj, e⟩ := P.keys x hx
    have ne : thr k (prs k fun h => la k s h k) j n ≠ [] := fun z => by
      have h1 := P.no j n hj z
      have h2 := valV_any (ky36 j n) kvs
      rw [h1, List.any_eq_true.mpr ⟨x, hx, decide_eq_true e⟩] at h2
      cases h2
    obtain ⟨q, hq⟩ := List.exists_mem_of_ne_nil _ ne
    unfold thr at hq
    obtain ⟨p, hp, _⟩ := List.mem_map.mp hq
    obtain ⟨p1, p2⟩ := List.mem_filter.mp hp
    have p2 : sn k p j = n := of_decide_eq_true p2
    unfold prs at p1
    obtain ⟨h, hh, rfl⟩ := List.mem_map.mp p1
    have hh := List.mem_range.mp hh
    have gi := la_in hk hs hh k (Nat.le_refl _)
    obtain ⟨l1, l2⟩ := lline_in k hk h hh _ gi j (by omega)
    have e16 : ((2 ^ k : Nat) : Int) = 2 ^ k := by push_cast; rfl
    have l3 : (lline k h (la k s h k) j).toNat < 2 ^ k := by omega
    obtain ⟨w1, w2⟩ := nwo_in k hk (lline k h (la k s h k) j).toNat l3 j hj
    have e8 : ((2 ^ (k - 1) : Nat) : Int) = 2 ^ (k - 1) := by push_cast; rfl
    have p2 : nwo k (lline k h (la k s h k) j).toNat (j + 1) = n := p2
    refine ⟨j, n.toNat, hj, by omega, ?_⟩
    rw [e, Int.toNat_of_nonneg (by omega)]
  have le : kvs.length ≤ k * 2 ^ (k - 1) := by
    have := ndl (xs := kvs.map fun x => x.1) (ys := (List.range (k * 2 ^ (k - 1))).map fun m => ky36 (m / 2 ^ (k - 1)) ((m % 2 ^ (k - 1) : Nat) : Int)) P.nd (fun y hy => by
      obtain ⟨x, hx, rfl⟩ := List.mem_map.mp hy
      obtain ⟨j, n, hj, hn, e⟩ := inn x hx
      refine List.mem_map.mpr ⟨j * 2 ^ (k - 1) + n, List.mem_range.mpr ?_, ?_⟩
      · have : (j + 1) * 2 ^ (k - 1) ≤ k * 2 ^ (k - 1) := Nat.mul_le_mul_right _ hj
        rw [Nat.succ_mul] at this
        omega
      · rw [e, Nat.mul_comm, Nat.mul_add_div N0, Nat.div_eq_of_lt hn, Nat.add_zero, Nat.mul_add_mod, Nat.mod_eq_of_lt hn])
    rw [List.length_map, List.length_map, List.length_range] at this
    exact this
  have ge : k * 2 ^ (k - 1) ≤ kvs.length := by
    have := ndl (xs := List.range (k * 2 ^ (k - 1))) (ys := kvs.map fun x => match x.1 with | [.inl a, .inl b] => (a.toNat - 1) * 2 ^ (k - 1) + b.toNat | _ => 0) List.nodup_range (fun m hm => by
      have hm := List.mem_range.mp hm
      have hj : m / 2 ^ (k - 1) < k := Nat.div_lt_of_lt_mul (by rw [Nat.mul_comm]; exact hm)
      have hn : m % 2 ^ (k - 1) < 2 ^ (k - 1) := Nat.mod_lt _ N0
      obtain ⟨x1, y1, x2, y2, e, _⟩ := thr_two hk hs hj hn
      obtain ⟨a, ts, v1, _⟩ := P.val _ _ hj (by rw [e]; simp)
      have h1 := valV_any (ky36 (m / 2 ^ (k - 1)) ((m % 2 ^ (k - 1) : Nat) : Int)) kvs
      rw [v1] at h1
      obtain ⟨q, hq, e2⟩ := List.any_eq_true.mp h1
      refine List.mem_map.mpr ⟨q, hq, ?_⟩
      rw [of_decide_eq_true e2]
      show ((((m / 2 ^ (k - 1) + 1 : Nat) : Int)).toNat - 1) * 2 ^ (k - 1) + (((m % 2 ^ (k - 1) : Nat) : Int)).toNat = m
      rw [Int.toNat_natCast, Int.toNat_natCast, Nat.add_sub_cancel, Nat.mul_comm]
      exact Nat.div_add_mod _ _)
    rw [List.length_map, List.length_range] at this
    exact this
  omega
def spBy36 (K : PySem.W.Frag) : Sp := fun vs H Q _ => ∃ (k : Nat) (T S : Addr) (ts : List Addr) (ps : List (Nat × Nat)) (s : Tbl), vs = [.int k, .ref S, .ref T] ∧ k ≤ 4 ∧ PrT H k T ts ps ∧ SeAt H S k s ∧ ps = prs k (fun h => la k s h k) ∧ Bt s ∧ ∀ H', Same H H' → Q (.bl true) H'
theorem k__law_by_two (D : Df K mg "_law_by_two" s__law_by_two ["_law_k", "_law_settings_here", "_law_pairs"]) (D__law_passed : Dn P w K mg base 6 "_law_passed" ["_law_k", "_law_pairs"] (spPassed K)) (D__law_are_two : Dn P w K mg base 1 "_law_are_two" ["_law_lines", "_law_crossed"] (spTwo36 K)) : Dn P w K mg base 8 "_law_by_two" ["_law_k", "_law_settings_here", "_law_pairs"] (spBy36 K) := by
  refine D.ok fun f fd F => okG0 F sc__law_by_two (fun vs H Q E h => ?_) (fun cdv A outer s H vs Q E hr h => ⟨_, (pss_cons (ps_set (i := 3) sc__law_by_two.nd rfl (Or.inl rfl) (pe_cD D__law_passed (hr.less (by decide)) rfl (pa_cons (pv 0) (pa_cons (pv 2) pa_nil))))
    (pss_cons (ps_if (pt_cmpR op_ne (pe_callB call_len_dT (by rfl) B.len_ (by decide +kernel) (pa_cons (pv 3) pa_nil)) (pe_op op_fdivW (pe_op op_mulX (pv 0) (pe_op op_shlW pe_int (pv 0))) pe_int) (nomark _))
      (pss_one (ps_ret pe_bl))
      pss_nil)
    (pss_cons (ps_for PassesOwn.never rfl (pi_range2 (by rfl) B.range_ (pa_cons pe_int (pa_cons (pe_op op_add (pv 0) pe_int) pa_nil))) (pg_name (i := 4) sc__law_by_two.nd rfl (Or.inl rfl))
      (pss_one (ps_for PassesOwn.never rfl (pi_range1 (by rfl) B.range_ (pa_cons (pe_op op_shlW pe_int (pe_op op_sub (pv 0) pe_int)) pa_nil)) (pg_name (i := 5) sc__law_by_two.nd rfl (Or.inl rfl))
       (pss_one (ps_if (pt_not (pt_val (pe_cD D__law_are_two (hr.less (by decide)) rfl (pa_cons (pe_dget2 hr.u1 (pv 3) (pe_tup (pa_cons (pv 4) (pa_cons (pv 5) pa_nil))) (pe_lst pa_nil) ⟨rfl, rfl, rfl, rfl⟩) (pa_cons (pe_ix (kk (K := K) (F := rIxT) (P := IxR _) ix_tup) (pe_ix (kk (K := K) (F := rIxT) (P := IxR _) ix_tup) (pv 1) (pe_op op_sub (pv 4) pe_int) (fun _ _ => rfl)) (pv 5) (fun _ _ => rfl)) pa_nil)))))
        (pss_one (ps_ret pe_bl))
        pss_nil)))))
    (pss_one (ps_ret pe_bl))))), ?_⟩)
  · obtain ⟨k, T, S, ts, ps, s, rfl, _⟩ := h; rfl
  · obtain ⟨k, T, S, ts, ps, s, rfl, hk, hP, hS, eps, hB, q⟩ := h
    have sh : CShl 1 (k : Int) := shl_ok (by omega)
    have l16 : 2 ^ k ≤ 16 := (Nat.pow_le_pow_right (by decide) hk : 2 ^ k ≤ 2 ^ 4)
    have eL : (1 : Int) * 2 ^ ((k : Nat) : Int).toNat = ((2 ^ k : Nat) : Int) := by rw [Int.one_mul, Int.toNat_natCast]; push_cast; rfl
    have lps : ps.length = 2 ^ k := by rw [eps]; unfold prs; rw [List.length_map, List.length_range]
    have mm : CMulX (k : Int) ((1 : Int) * 2 ^ ((k : Nat) : Int).toNat) := by rw [eL]; exact mulx 10 10 (by omega) (by omega)
    have dv : CDivW ((k : Int) * ((1 : Int) * 2 ^ ((k : Nat) : Int).toNat)) 2 := ⟨by decide, by decide⟩
    have kh : ∀ k, k < 5 → ((k : Nat) : Int) * ((2 ^ k : Nat) : Int) / 2 = ((k * 2 ^ (k - 1) : Nat) : Int) := by decide +kernel
    try walk_at "go"
    intro D kvs H1 S1 P1
    have at1 := P1.at_
    subst eps
    have lk := pd_len (by omega : k < 5) hB P1
    have e9 : (!decide (V.int ((kvs.length : Nat) : Int) = V.int ((k : Int) * ((1 : Int) * 2 ^ ((k : Nat) : Int).toNat) / 2))) = false := by
      rw [eL, kh k (by omega), lk, decide_eq_true rfl] <;> rfl
    try walk_at "go"
    refine ifF e9 ?_
    try walk_at "go"
    have e5 : (((k : Nat) : Int) + 1 - 1).toNat = k := by omega
    rw [e5]
    refine for_range (lo := 1) (n := k) (fun j σ H' => Kept (∃ w4 w5 : Option V, σ = [some (.int (k : Nat)), some (.ref S), some (.ref T), some (.ref D), w4, w5] ∧ Same H1 H')) ⟨_, _, rfl, Same.refl H1⟩ ?_ ?_
    · rintro j σ H2 hj ⟨w4, w5, rfl, S2⟩
      clear kh e9 mm dv lk
      have ej : (1 : Int) + (j : Int) = ((j + 1 : Nat) : Int) := by omega
      rw [ej]
      have e1 : (k : Int) - 1 = ((k - 1 : Nat) : Int) := by omega
      have hsh : CShl 1 ((k : Int) - 1) := by rw [e1]; exact shl_ok (by omega)
      have eL2 : (1 : Int) * 2 ^ (((k : Nat) : Int) - 1).toNat = ((2 ^ (k - 1) : Nat) : Int) := by rw [Int.one_mul, e1, Int.toNat_natCast]; push_cast; rfl
      have e8 : 2 ^ (k - 1) ≤ 8 := (Nat.pow_le_pow_right (by decide) (by omega) : 2 ^ (k - 1) ≤ 2 ^ 3)
      try walk_at "go"
      rw [eL2, Int.toNat_natCast]
      refine for_range (lo := 0) (n := 2 ^ (k - 1)) (fun n σ H' => Kept (∃ w5 : Option V, σ = [some (.int (k : Nat)), some (.ref S), some (.ref T), some (.ref D), some (.int ((j + 1 : Nat) : Int)), w5] ∧ Same H1 H')) ⟨_, rfl, S2⟩ ?_ ?_
      · rintro n σ H3 hn ⟨w5, rfl, S3⟩
        have e0 : (0 : Int) + (n : Int) = (n : Int) := Int.zero_add _
        rw [e0]
        have P3 := P1.same S3
        have at3 := P3.at_
        have isD : IsD H3 D := .inr ⟨_, .inl at3⟩
        try walk_at "go"
        intro B6 hB6
        generalize eH4 : upd _ B6 _ = H4
        have SH4 := newS eH4 hB6
        have oB6 := newO eH4
        try walk_at "go"
        intro E hE
        generalize eH5 : upd _ E _ = H5
        have SH5 := newS eH5 hE
        have oE := newO eH5
        have S35 := SH4.trans SH5
        have oB5 : H5 B6 = some (.tup ((ky36 j (n : Nat)).map kV)) := SH5 _ _ oB6
        have P5 := P3.same S35
        obtain ⟨x1, y1, x2, y2, et, nx, ny, f1, f2⟩ := thr_two (by omega : k < 5) hB hj hn
        obtain ⟨a, us, v1, v2, v3⟩ := P5.val j (n : Nat) hj (by rw [et]; simp)
        rw [et] at v3
        obtain ⟨t1, t2, rfl⟩ : ∃ t1 t2, us = [t1, t2] := by
          have := v3.1
          match us, this with
          | [t1, t2], _ => exact ⟨t1, t2, rfl⟩
        have p1 := v3.2 0 t1 (x1, y1) rfl rfl
        have p2 := v3.2 1 t2 (x2, y2) rfl rfl
        have v2 : H5 a = some (.lst [.ref t1, .ref t2]) := v2
        have dg : DGet H5 D (.ref B6) (some (.ref a)) := by
          have := DGet.t P5.at_ oB5
          rw [v1] at this
          exact this
        obtain ⟨as, h1, h2, h3⟩ := hS.same (S1.trans (S3.trans S35))
        obtain ⟨r, hr⟩ : ∃ r, as[j]? = some r := ⟨as[j]'(by omega), List.getElem?_eq_getElem (by omega)⟩
        have rr := h3 j r hr
        have i1 : atI (as.map V.ref) (((j + 1 : Nat) : Int) - 1) = some (.ref r) := by
          rw [show ((j + 1 : Nat) : Int) - 1 = (j : Int) by omega]
          exact atI_nat (by rw [List.getElem?_map, hr] <;> rfl)
        have i2 : atI ((row k s j).map V.int) (n : Int) = some (.int (s j n)) := by
          refine atI_nat ?_
          have r9 : (row k s j)[n]? = some (s j n) := row_at hn
          rw [List.getElem?_map]
          exact congrArg (Option.map V.int) r9
        refine ⟨_, dg, ?_⟩
        try walk_at "go"
        intro H6 S6
        try walk_at "go"
        exact ⟨⟨_, rfl, S3.trans (S35.trans S6)⟩⟩
      rintro σ H3 ⟨w5, rfl, S3⟩
      exact ⟨⟨_, _, rfl, S3⟩⟩
    rintro σ H2 ⟨w4, w5, rfl, S2⟩
    try walk_at "go"
    exact q H2 (S1.trans S2)
/-! SPLIT -/
def spOth36 (K : PySem.W.Frag) : Sp := fun vs H Q _ => ∃ (k h0 e : Nat) (U : Addr) (g : Nat → Nat), vs = [.int k, .ref U, .int h0, .int e] ∧ k ≤ 4 ∧ h0 < 2 ^ k ∧ e < 2 ^ k ∧ H U = some (.tup (nV (sdl k g))) ∧ Gd k g ∧ (∀ a b, a < 2 ^ k → b < 2 ^ k → g a = g b → a = b) ∧ ∀ H', Same H H' → Q (.bl true) H'
theorem k__law_otherwise_clashes (D : Df K mg "_law_otherwise_clashes" s__law_otherwise_clashes ["_law_k", "_law_sides", "_law_hand", "_law_goal"]) (D_first_shared : Dn P w K mg base 5 "first_shared" ["k", "pairs"] (spShared K)) (D_settings_for : Dn P w K mg base 6 "settings_for" ["k", "sides"] (spSetFor K)) : Dn P w K mg base 8 "_law_otherwise_clashes" ["_law_k", "_law_sides", "_law_hand", "_law_goal"] (spOth36 K) := by
  refine D.ok fun f fd F => okG0 F sc__law_otherwise_clashes (fun vs H Q E h => ?_) (fun cdv A outer s H vs Q E hr h => ⟨_, (pss_cons (ps_if (pt_cmpR op_eq (pe_ix (kk (K := K) (F := rIxT) (P := IxR _) ix_tup) (pv 1) (pv 2) (fun _ _ => rfl)) (pv 3) (nomark _))
      (pss_one (ps_ret pe_bl))
      pss_nil)
    (pss_cons (ps_set (i := 4) sc__law_otherwise_clashes.nd rfl (Or.inl rfl) (pe_op op_catU (pe_op op_catU (pe_slice sl_tupU (pv 1) po_none (po_some (pv 2))) (pe_tup (pa_cons (pv 3) pa_nil))) (pe_slice sl_tupU (pv 1) (po_some (pe_op op_add (pv 2) pe_int)) po_none)))
    (pss_cons (ps_set (i := 5) sc__law_otherwise_clashes.nd rfl (Or.inl rfl) (pe_cD D_first_shared (hr.less (by decide)) rfl (pa_cons (pv 0) (pa_cons (kk (K := K) (F := fun K => tTupEnT K _) (P := PE _ _) (pe_tupEnT rfl (by rfl) B.tuple_ (by rfl) B.enumerate_ (pa_cons (pv 4) pa_nil))) pa_nil))))
    (pss_cons (ps_if (PW.pt (pw_or (pt_cmpR op_isN (pv 5) pe_non (nomark _)) (pw_or1 (pt_cmpR op_gt (pe_ix (kk (K := K) (F := rIxT) (P := IxR _) ix_tup) (pv 5) pe_int (fun _ _ => rfl)) (pv 0) (nomark _)))))
      (pss_one (ps_ret pe_bl))
      pss_nil)
    (pss_one (ps_ret (pe_cmpR (kk (K := K) (F := rEqD) (P := OpR _ _) (op_eqD hr.units)) (pe_cD D_settings_for (hr.less (by decide)) rfl (pa_cons (pv 0) (pa_cons (pv 4) pa_nil))) (pe_tup (pa_cons pe_str (pa_cons (pv 5) pa_nil))) (nomark _)))))))), ?_⟩)
  · obtain ⟨k, h0, e, U, g, rfl, _⟩ := h; rfl
  · obtain ⟨k, h0, e, U, g, rfl, hk, hh, he, hU, gd, gj, q⟩ := h
    have l16 : 2 ^ k ≤ 16 := (Nat.pow_le_pow_right (by decide) hk : 2 ^ k ≤ 2 ^ 4)
    have sl : (sdl k g).length = 2 ^ k := by unfold sdl; rw [List.length_map, List.length_range]
    have i0 : atI (nV (sdl k g)) (h0 : Int) = some (.int (g h0 : Nat)) := by
      refine atI_nat ?_
      unfold nV sdl
      rw [List.getElem?_map, List.getElem?_map, List.getElem?_range hh] <;> rfl
    try walk_at "go"
    refine ite2 (fun c => ?_) (fun c => ?_)
    · exact q H (Same.refl H)
    have ne : g h0 ≠ e := fun z => c (decide_eq_true (by rw [z]))
    have lnv : (nV (sdl k g)).length = 2 ^ k := by unfold nV; rw [List.length_map, sl]
    obtain ⟨g', eg⟩ : ∃ g' : Nat → Nat, g' = fun h => if h = h0 then e else g h := ⟨_, rfl⟩
    have gd' : Gd k g' := fun h hlt => by
      rw [eg]
      show (if h = h0 then e else g h) < 2 ^ k
      by_cases q : h = h0
      · rw [if_pos q]; exact he
      · rw [if_neg q]; exact gd h hlt
    have eo : (nV (sdl k g)).take h0 ++ [V.int (e : Nat)] ++ (nV (sdl k g)).drop (h0 + 1) = nV (sdl k g') := by
      refine List.ext_getElem? fun i => ?_
      have lt : ((nV (sdl k g)).take h0).length = h0 := by rw [List.length_take]; omega
      have at' : ∀ f : Nat → Nat, i < 2 ^ k → (nV (sdl k f))[i]? = some (.int (f i : Nat)) := fun f hi => by
        unfold nV sdl
        rw [List.getElem?_map, List.getElem?_map, List.getElem?_range hi] <;> rfl
      have sl' : (nV (sdl k g')).length = 2 ^ k := by unfold nV sdl; rw [List.length_map, List.length_map, List.length_range]
      by_cases c1 : i < 2 ^ k
      · rw [at' g' c1, eg]
        show _ = some (V.int ((if i = h0 then e else g i : Nat) : Int))
        by_cases c2 : i < h0
        · rw [List.getElem?_append_left (by rw [List.length_append, lt]; omega), List.getElem?_append_left (by rw [lt]; exact c2), List.getElem?_take, if_pos c2, at' g c1, if_neg (by omega)]
        · by_cases c3 : i = h0
          · subst c3
            rw [List.getElem?_append_left (by rw [List.length_append, lt]; exact Nat.lt_succ_self i), List.getElem?_append_right (by rw [lt]; exact Nat.le_refl _), lt, Nat.sub_self, if_pos rfl] <;> rfl
          · rw [List.getElem?_append_right (by rw [List.length_append, lt]; show h0 + 1 ≤ i; omega), List.length_append, lt, List.getElem?_drop, show h0 + 1 + (i - (h0 + [V.int ((e : Nat) : Int)].length)) = i by show h0 + 1 + (i - (h0 + 1)) = i; omega, at' g c1, if_neg c3]
      · rw [List.getElem?_eq_none (by rw [List.length_append, List.length_append, lt, List.length_drop, lnv]; show h0 + 1 + _ ≤ i; omega), List.getElem?_eq_none (by omega)]
    have sz1 : 100 ≤ sizeLine := by decide +kernel
    try walk_at "go"
    intro P1 H1 S1 o1
    rw [cut_to] at o1
    have lt : ((nV (sdl k g)).take h0).length = h0 := by rw [List.length_take]; omega
    have ld : ((nV (sdl k g)).drop (h0 + 1)).length = 2 ^ k - (h0 + 1) := by rw [List.length_drop, lnv]
    have c2 : cutV (nV (sdl k g)) (some ((h0 : Int) + 1)) none = (nV (sdl k g)).drop (h0 + 1) := by rw [show (h0 : Int) + 1 = ((h0 + 1 : Nat) : Int) from rfl, cut_from]
    try walk_at "go"
    intro P2 hP2
    generalize eH2 : upd _ P2 _ = H2
    have SH2 := newS eH2 hP2
    have oP2 := newO eH2
    have o1' := SH2 _ _ o1
    have z1 : ((nV (sdl k g)).take h0).length + [V.int (e : Nat)].length ≤ sizeLine := Nat.le_trans (show _ + 1 ≤ 100 by omega) sz1
    try walk_at "go"
    intro P3 H3 S3 o3
    have hU3 := (S1.trans (SH2.trans S3)) _ _ hU
    try walk_at "go"
    intro P4 H4 S4 o4
    rw [c2] at o4
    have o3' := S4 _ _ o3
    have z2 : ((nV (sdl k g)).take h0 ++ [V.int (e : Nat)]).length + ((nV (sdl k g)).drop (h0 + 1)).length ≤ sizeLine := by
      rw [List.length_append, lt, ld]
      exact Nat.le_trans (show h0 + 1 + (2 ^ k - (h0 + 1)) ≤ 100 by omega) sz1
    try walk_at "go"
    intro P5 H5 S5 o5
    rw [eo] at o5
    have S05 := S1.trans (SH2.trans (S3.trans (S4.trans S5)))
    have l100 : (nV (sdl k g')).length ≤ 1000 := by unfold nV sdl; rw [List.length_map, List.length_map, List.length_range]; omega
    try walk_at "go"
    intro P ts H6 S6 hPn hP hl hx
    have hP6 : PrT H6 k P ts (prs k g') := by
      refine ⟨hP, ⟨by rw [hl, sdl_len]; unfold prs; rw [List.length_map, List.length_range], fun j t p ht hp => ?_⟩, fun p hp => ?_, by unfold prs; rw [List.length_map, List.length_range]; omega⟩
      · unfold prs at hp
        rw [List.getElem?_map] at hp
        obtain ⟨j', hj', rfl⟩ := Option.map_eq_some_iff.mp hp
        have hjl : j < 2 ^ k := by have := (List.getElem?_eq_some_iff.mp hj').1; rwa [List.length_range] at this
        rw [List.getElem?_range hjl] at hj'
        cases hj'
        refine hx j t _ ht ?_
        unfold nV sdl
        rw [List.getElem?_map, List.getElem?_map, List.getElem?_range hjl] <;> rfl
      · unfold prs at hp
        obtain ⟨j, hj, rfl⟩ := List.mem_map.mp hp
        exact ⟨List.mem_range.mp hj, gd' j (List.mem_range.mp hj)⟩
    try walk_at "go"
    intro r v H7 F7 S7 hv
    have rne : r ≠ none := fun z => by
      subst z
      have ap := ap_of (by omega : k < 5) gd' F7
      have pm : ((List.range (2 ^ k)).map g).Perm (List.range (2 ^ k)) := full_pm (by
        rw [List.nodup_iff_pairwise_ne, List.pairwise_map]
        exact List.pairwise_lt_range.imp_of_mem fun {a b} ha hb h z => by
          have := gj a b (List.mem_range.mp ha) (List.mem_range.mp hb) z
          omega) (fun x hx => by
        obtain ⟨h, hh, rfl⟩ := List.mem_map.mp hx
        exact gd h (List.mem_range.mp hh)) (by rw [List.length_map, List.length_range])
      obtain ⟨h', hm, ee⟩ := List.mem_map.mp (pm.mem_iff.mpr (List.mem_range.mpr he))
      have hm := List.mem_range.mp hm
      have n2 : h' ≠ h0 := fun z => ne (by rw [← z]; exact ee)
      have g1 : g' h0 = e := by rw [eg]; exact if_pos rfl
      have g2 : g' h' = e := by rw [eg]; exact (if_neg n2).trans ee
      refine n2 (ap k (Nat.le_refl k) h0 h' hh hm ?_).symm
      rw [g1, g2, low_all k (by omega) h0 hh e he, low_all k (by omega) h' hm e he]
    cases r with
    | none => exact absurd rfl rne
    | some y =>
      obtain ⟨lv, x⟩ := y
      obtain ⟨V9, rfl, oV9⟩ := hv
      have lk := F7.1
      have i9 : atI [V.int (lv : Nat), .int x] 0 = some (.int (lv : Nat)) := rfl
      try walk_at "go"
      refine ifF (decide_eq_false (show ¬ ((k : Nat) : Int) < (lv : Nat) by omega)) ?_
      have o57 := (S6.trans S7) _ _ o5
      try walk_at "go"
      intro U2 H8 S8 told
      try walk_at "go"
      intro Z hZ
      generalize eH9 : upd _ Z _ = H9
      have SH9 := newS eH9 hZ
      have oZ := newO eH9
      have oV99 := (S8.trans SH9) _ _ oV9
      obtain ⟨X, oU2, oX⟩ : ∃ X : Addr, H9 U2 = some (.tup [.str "clash", .ref X]) ∧ H9 X = some (.tup [.int (lv : Nat), .int x]) := by
        rcases told with ⟨X, y, f, o1, o2⟩ | ⟨X, c, ap, _⟩
        · have := f.uniq F7
          cases this
          exact ⟨X, SH9 _ _ o1, SH9 _ _ o2⟩
        · have := (no_of (by omega : k < 5) gd' ap).uniq F7
          cases this
      have ly : Ly 2 (.tuple [.str "clash", .tuple [.int (lv : Nat), .int x]]) := Ly.tup2 .str (Ly.tup2 .int .int)
      have dU : Dp K H9 (.ref U2) (.tuple [.str "clash", .tuple [.int (lv : Nat), .int x]]) := .tup (SqT.of oU2) (.cons (.str _) (.cons (.tup (SqT.of oX) (.cons (.int _) (.cons (.int _) .nil))) .nil))
      have dZ : Dp K H9 (.ref Z) (.tuple [.str "clash", .tuple [.int (lv : Nat), .int x]]) := .tup (SqT.of oZ) (.cons (.str _) (.cons (.tup (SqT.of oV99) (.cons (.int _) (.cons (.int _) .nil))) .nil))
      have q9 := q H9 (S05.trans (S6.trans (S7.trans (S8.trans SH9))))
      rw [← ly.refl] at q9
      exact ⟨_, _, dU, dZ, ly.sh, ly.sh, q9⟩
/-! SPLIT -/
/-! SPLIT -/
omit B in
theorem la_cong {k : Nat} {s : Nat → Nat → Int} {g : Nat → Nat} (h : ∀ x, x < 2 ^ k → la k s x k = g x) : sdl k (fun x => la k s x k) = sdl k g := by
  unfold sdl
  exact List.map_congr_left fun x hx => h x (List.mem_range.mp hx)
omit B in
theorem sdl_inj {k : Nat} {g g' : Nat → Nat} (h : sdl k g = sdl k g') : ∀ x, x < 2 ^ k → g x = g' x := fun x hx => by
  have e := congrArg (fun l : List Nat => l[x]?) h
  unfold sdl at e
  simp only [List.getElem?_map, List.getElem?_range hx] at e
  exact Option.some.inj e
/-- a row of numbers, as data -/
def nD (ss : List Nat) : List PyData := (ss.map fun n : Nat => (n : Int)).map PyData.int
omit B in
theorem nV_ints {ss : List Nat} : nV ss = (ss.map fun n : Nat => (n : Int)).map V.int := by unfold nV; rw [List.map_map] <;> rfl
omit B in
theorem nD_inj {ss ts : List Nat} (h : nD ss = nD ts) : ss = ts := by
  unfold nD at h
  rw [List.map_map, List.map_map] at h
  exact (List.map_inj_right fun a b e => Int.ofNat.inj (PyData.int.inj e)).mp h
omit B in
theorem nD_lst {K : PySem.W.Frag} {H : Hp} {a : Addr} {ss : List Nat} (h : H a = some (.lst (nV ss))) : Dp K H (.ref a) (.list (nD ss)) := lst_dp (SqL.of (by rw [h, nV_ints]))
omit B in
theorem nD_tup {K : PySem.W.Frag} {H : Hp} {a : Addr} {ss : List Nat} (h : H a = some (.tup (nV ss))) : Dp K H (.ref a) (.tuple (nD ss)) := tupI_dp (SqT.of (by rw [h, nV_ints]))
/-- settings, as data -/
def seD (k : Nat) (s : Tbl) : PyData := .tuple ((List.range k).map fun j => .tuple ((row k s j).map PyData.int))
omit B in
theorem seD_ly {k : Nat} {s : Tbl} : Ly 2 (seD k s) := .tup fun d hd => by
  obtain ⟨j, _, rfl⟩ := List.mem_map.mp hd
  exact .tupI
omit B in
theorem seD_cong {k : Nat} {s s' : Tbl} (h : ∀ j, j < k → row k s j = row k s' j) : seD k s = seD k s' := by
  unfold seD
  exact congrArg PyData.tuple (List.map_congr_left fun j hj => by rw [h j (List.mem_range.mp hj)])
omit B in
theorem SeAt.dp {K : PySem.W.Frag} {H : Hp} {T : Addr} {k : Nat} {s : Tbl} (a : SeAt H T k s) : Dp K H (.ref T) (seD k s) := by
  obtain ⟨as, h1, h2, h3⟩ := a
  refine .tup (SqT.of h1) (dpAll_of (by rw [List.length_map, List.length_map, List.length_range, h2]) fun i x d hx hd => ?_)
  rw [List.getElem?_map] at hx hd
  obtain ⟨a, ha, rfl⟩ := Option.map_eq_some_iff.mp hx
  obtain ⟨j, hj, rfl⟩ := Option.map_eq_some_iff.mp hd
  have hi : i < k := by have := (List.getElem?_eq_some_iff.mp ha).1; omega
  rw [List.getElem?_range hi] at hj
  cases hj
  exact tupI_dp (SqT.of (h3 i a ha))
def spLaw (K : PySem.W.Frag) : Sp := fun vs H Q _ => ∃ (a : Addr) (ns : List Int), vs = [.ref a] ∧ SqL K H a (ns.map V.int) ∧ ns.length ≤ 63 ∧ ∀ H', Q (.bl true) H'
theorem k_law {f : Addr} {fd : FuncData} (F : Fun K "law" "law" s_law f fd) (D__law_purse : Dn P w K mg base 1 "_law_purse" ["_law_script", "_law_k"] (spPurse K)) (D__law_take : Dn P w K mg base 2 "_law_take" ["_law_purse_here", "_law_many"] (spTakeP K)) (D__law_settings : Dn P w K mg base 3 "_law_settings" ["_law_purse_here", "_law_k"] (spSettS K)) (D_led : Dn P w K mg base 6 "led" ["k", "settings"] (spLedP K)) (D_first_shared : Dn P w K mg base 5 "first_shared" ["k", "pairs"] (spShared K)) (D__law_by_two : Dn P w K mg base 8 "_law_by_two" ["_law_k", "_law_settings_here", "_law_pairs"] (spBy36 K)) (D_settings_for : Dn P w K mg base 6 "settings_for" ["k", "sides"] (spSetFor K)) (D__law_otherwise_clashes : Dn P w K mg base 8 "_law_otherwise_clashes" ["_law_k", "_law_sides", "_law_hand", "_law_goal"] (spOth36 K)) : FnG P w K mg base CX0 12 f fd ["_law_script"] (spLaw K) := by
  refine okG0 F sc_law (fun vs H Q E h => ?_) (fun cdv A outer s H vs Q E hr h => ⟨_, (pss_cons (ps_for PassesOwn.never rfl (pi_range1 (by rfl) B.range_ (pa_cons (pe_callB (call_max2 rfl) (by rfl) B.max_ (by decide +kernel) (pa_cons pe_int (pa_cons (pe_callB (call_min2 rfl) (by rfl) B.min_ (by decide +kernel) (pa_cons pe_int (pa_cons (pe_callB (lenK (K := K)) (by rfl) B.len_ (by decide +kernel) (pa_cons (pv 0) pa_nil)) pa_nil))) pa_nil))) pa_nil)) (pg_name (i := 1) sc_law.nd rfl (Or.inl rfl))
      (pss_cons (ps_set (i := 2) sc_law.nd rfl (Or.inl rfl) (pe_cD D__law_purse (hr.less (by decide)) rfl (pa_cons (pv 0) (pa_cons (pv 1) pa_nil))))
      (pss_cons (ps_set (i := 3) sc_law.nd rfl (Or.inl rfl) (pe_cD D__law_take (hr.less (by decide)) rfl (pa_cons (pv 2) (pa_cons pe_int pa_nil))))
      (pss_cons (ps_set (i := 4) sc_law.nd rfl (Or.inl rfl) (pe_cD D__law_settings (hr.less (by decide)) rfl (pa_cons (pv 2) (pa_cons (pv 3) pa_nil))))
      (pss_cons (ps_par (i := 5) (j := 6) rfl sc_law.nd rfl rfl (by decide) rfl rfl (pa_cons (pe_cD D__law_take (hr.less (by decide)) rfl (pa_cons (pv 2) (pa_cons (pe_op op_shlW pe_int (pv 3)) pa_nil))) (pa_cons (pe_cD D__law_take (hr.less (by decide)) rfl (pa_cons (pv 2) (pa_cons (pe_op op_shlW pe_int (pv 3)) pa_nil))) pa_nil)) (by rfl))
      (pss_one (ps_for PassesOwn.never rfl (pi_range1 (by rfl) B.range_ (pa_cons pe_int pa_nil)) (pg_name (i := 7) sc_law.nd rfl (Or.inl rfl))
       (pss_cons (ps_set (i := 8) sc_law.nd rfl (Or.inl rfl) (pe_cD D_led (hr.less (by decide)) rfl (pa_cons (pv 3) (pa_cons (pv 4) pa_nil))))
       (pss_cons (ps_set (i := 9) sc_law.nd rfl (Or.inl rfl) (kk (K := K) (F := fun K => tTupEnT K _) (P := PE _ _) (pe_tupEnT rfl (by rfl) B.tuple_ (by rfl) B.enumerate_ (pa_cons (pv 8) pa_nil))))
       (pss_cons (ps_if (PW.pt (pw_or (pt_cmpR (kk (K := K) (F := rNeD) (P := OpR _ _) (op_neD hr.units)) (pe_callB (kk (K := K) (F := rSortedIT) (P := CallR _ _) cr_sortedIT) (by rfl) B.sorted_ (by decide +kernel) (pa_cons (pv 8) pa_nil)) (pe_listRg rfl (by rfl) B.list_ (prg_1 rfl B.range_ (pe_op op_shlW pe_int (pv 3)))) (nomark _)) (pw_or1 (pt_cmpR op_notN (pe_cD D_first_shared (hr.less (by decide)) rfl (pa_cons (pv 3) (pa_cons (pv 9) pa_nil))) pe_non (nomark _)))))
         (pss_one (ps_ret pe_bl))
         pss_nil)
       (pss_cons (ps_if (PW.pt (pw_or (pt_not (pt_val (pe_cD D__law_by_two (hr.less (by decide)) rfl (pa_cons (pv 3) (pa_cons (pv 4) (pa_cons (pv 9) pa_nil)))))) (pw_or1 (pt_cmpR (kk (K := K) (F := rNeD) (P := OpR _ _) (op_neD hr.units)) (pe_cD D_settings_for (hr.less (by decide)) rfl (pa_cons (pv 3) (pa_cons (pv 8) pa_nil))) (pe_tup (pa_cons pe_str (pa_cons (pv 4) pa_nil))) (nomark _)))))
         (pss_one (ps_ret pe_bl))
         pss_nil)
       (pss_one (ps_if (pt_not (pt_val (pe_cD D__law_otherwise_clashes (hr.less (by decide)) rfl (pa_cons (pv 3) (pa_cons (pv 8) (pa_cons (pv 5) (pa_cons (pv 6) pa_nil)))))))
        (pss_one (ps_ret pe_bl))
        pss_nil)))))))))))))
    (pss_one (ps_ret pe_bl))), ?_⟩)
  · obtain ⟨a, ns, rfl, _⟩ := h; rfl
  · obtain ⟨a, ns, rfl, hs, hn, q⟩ := h
    try walk_at "go"
    have hN : (if (if (((ns.map V.int).length : Nat) : Int) < 4 then (((ns.map V.int).length : Nat) : Int) else 4) > 1 then (if (((ns.map V.int).length : Nat) : Int) < 4 then (((ns.map V.int).length : Nat) : Int) else 4) else 1).toNat ≤ 8 := by split <;> split <;> omega
    generalize (if (if (((ns.map V.int).length : Nat) : Int) < 4 then (((ns.map V.int).length : Nat) : Int) else 4) > 1 then (if (((ns.map V.int).length : Nat) : Int) < 4 then (((ns.map V.int).length : Nat) : Int) else 4) else 1).toNat = n at hN ⊢
    refine for_range (lo := 0) (n := n) (fun i σ H2 => Kept (∃ v1 v2 v3 v4 v5 v6 v7 v8 v9 : Option V, σ = [some (.ref a), v1, v2, v3, v4, v5, v6, v7, v8, v9] ∧ Same H H2)) ⟨_, _, _, _, _, _, _, _, _, rfl, Same.refl H⟩ ?_ ?_
    · rintro i σ H1 hi ⟨v1, v2, v3, v4, v5, v6, v7, v8, v9, rfl, S1⟩
      have hs1 := S1.seq hs
      have i60 : i ≤ 60 := by omega
      have e0 : (0 : Int) + (i : Int) = (i : Int) := Int.zero_add _
      rw [e0]
      try walk_at "go"
      intro p H2 hpn S2 p2
      try walk_at "go"
      intro k0 H3 k0a k0b b3 p3
      obtain ⟨k, rfl⟩ : ∃ x : Nat, k0 = (x : Int) := ⟨k0.toNat, by omega⟩
      have hk : k ≤ 4 := by omega
      have l16 : 2 ^ k ≤ 16 := (Nat.pow_le_pow_right (by decide) hk : 2 ^ k ≤ 2 ^ 4)
      have sh : CShl 1 (k : Int) := shl_ok (by omega)
      have eL : (1 : Int) * 2 ^ ((k : Nat) : Int).toNat = ((2 ^ k : Nat) : Int) := by rw [Int.one_mul, Int.toNat_natCast]; push_cast; rfl
      have hw := Nat.two_pow_pos k
      try walk_at "go"
      intro T s H4 b4 p4 hS hB
      have m1 : (1 : Int) ≤ (1 : Int) * 2 ^ ((k : Nat) : Int).toNat := by rw [eL]; omega
      have m2 : (1 : Int) * 2 ^ ((k : Nat) : Int).toNat < 2 ^ 200 := by rw [eL]; exact Int.lt_of_le_of_lt (show ((2 ^ k : Nat) : Int) ≤ 16 by omega) (by decide)
      try walk_at "go"
      intro hd H5 d50 d51 b5 p5
      try walk_at "go"
      intro gl H6 d60 d61 b6 p6
      rw [eL] at d51 d61
      obtain ⟨hd, rfl⟩ : ∃ x : Nat, hd = (x : Int) := ⟨hd.toNat, by omega⟩
      obtain ⟨gl, rfl⟩ : ∃ x : Nat, gl = (x : Int) := ⟨gl.toNat, by omega⟩
      have hS6 := (hS.keep (but_keep b5 p4)).keep (but_keep b6 p5)
      have b36 := b3.trans (b4.trans (b5.trans b6))
      try walk_at "go"
      obtain ⟨g, eg⟩ : ∃ g : Nat → Nat, g = fun h => la k s h k := ⟨_, rfl⟩
      have gd : Gd k g := fun h hh => by rw [eg]; exact la_in (by omega) hB hh k (Nat.le_refl _)
      have ap : Ap k g := by rw [eg]; exact la_ap (by omega) hB
      have gj : ∀ a b, a < 2 ^ k → b < 2 ^ k → g a = g b → a = b := fun a b ha hb z => by
        rw [eg] at z
        exact la_inj (by omega) hB ha hb k (Nat.le_refl _) z
      refine for_range (lo := 0) (n := 2) (fun j σ H' => Kept (∃ w7 w8 w9 : Option V, σ = [some (.ref a), some (.int (i : Nat)), some (.ref p), some (.int (k : Nat)), some (.ref T), some (.int (hd : Nat)), some (.int (gl : Nat)), w7, w8, w9] ∧ Same H6 H')) ⟨_, _, _, rfl, Same.refl H6⟩ ?_ ?_
      · rintro j σ H7 hj ⟨w7, w8, w9, rfl, S7⟩
        have hS7 := hS6.same S7
        try walk_at "go"
        intro U H8 S8 hU
        rw [← eg] at hU
        have l100 : (nV (sdl k g)).length ≤ 1000 := by unfold nV sdl; rw [List.length_map, List.length_map, List.length_range]; omega
        try walk_at "go"
        intro P ts H9 S9 hPn hP hl hx
        have hP9 : PrT H9 k P ts (prs k g) := by
          refine ⟨hP, ⟨by rw [hl, sdl_len]; unfold prs; rw [List.length_map, List.length_range], fun j t p ht hp => ?_⟩, fun p hp => ?_, by unfold prs; rw [List.length_map, List.length_range]; omega⟩
          · unfold prs at hp
            rw [List.getElem?_map] at hp
            obtain ⟨j', hj', rfl⟩ := Option.map_eq_some_iff.mp hp
            have hjl : j < 2 ^ k := by have := (List.getElem?_eq_some_iff.mp hj').1; rwa [List.length_range] at this
            rw [List.getElem?_range hjl] at hj'
            cases hj'
            refine hx j t _ ht ?_
            unfold nV sdl
            rw [List.getElem?_map, List.getElem?_map, List.getElem?_range hjl] <;> rfl
          · unfold prs at hp
            obtain ⟨j, hj, rfl⟩ := List.mem_map.mp hp
            exact ⟨List.mem_range.mp hj, gd j (List.mem_range.mp hj)⟩
        have hU9 : H9 U = some (.tup (((sdl k g).map fun n => ((n : Nat) : Int)).map V.int)) := by
          rw [S9 _ _ hU]
          unfold nV
          rw [List.map_map] <;> rfl
        try walk_at "go"
        intro n1 P1 pm1 sr1 hP1
        generalize eH10 : upd _ P1 (HO.lst (n1.map V.int)) = H10
        have SH10 := newS eH10 hP1
        have oP1 := newO eH10
        try walk_at "go"
        intro q2 hq2
        have rgE : rgV 0 ((1 : Int) * 2 ^ ((k : Nat) : Int).toNat) = ((List.range (2 ^ k)).map fun i : Nat => (i : Int)).map V.int := by
          rw [eL]
          unfold rgV
          rw [List.map_map, Int.sub_zero, Int.toNat_natCast]
          refine List.map_congr_left fun i _ => ?_
          show V.int (0 + (i : Int)) = V.int (i : Int)
          rw [Int.zero_add]
        have gp : (sdl k g).Perm (List.range (2 ^ k)) := full_pm (by
          unfold sdl
          rw [List.nodup_iff_pairwise_ne, List.pairwise_map]
          exact List.pairwise_lt_range.imp_of_mem fun {a b} ha hb h z => by
            have := gj a b (List.mem_range.mp ha) (List.mem_range.mp hb) z
            omega) (fun x hx => by
          unfold sdl at hx
          obtain ⟨h, hh, rfl⟩ := List.mem_map.mp hx
          exact gd h (List.mem_range.mp hh)) (by unfold sdl; rw [List.length_map, List.length_range])
        have en1 : n1 = (List.range (2 ^ k)).map fun i : Nat => (i : Int) := by
          refine List.Perm.eq_of_pairwise (le := fun a b => a ≤ b) (fun a b _ _ h1 h2 => Int.le_antisymm h1 h2) sr1 ?_ (pm1.trans (gp.map _))
          rw [List.pairwise_map]
          exact List.pairwise_lt_range.imp fun h => by omega
        rw [rgE, ← en1]
        generalize eH11 : upd _ q2 (HO.lst (n1.map V.int)) = H11
        have SH11 := newS eH11 hq2
        have oq2 := newO eH11
        have oP11 := SH11 _ _ oP1
        have S911 := SH10.trans SH11
        have hP11 := hP9.same S911
        refine ⟨_, _, lst_dp (SqL.of oP11), lst_dp (SqL.of oq2), (Ly.lstI).sh, (Ly.lstI).sh, _, rfl, ?_⟩
        rw [(Ly.lstI (ns := n1)).refl]
        refine ifF rfl ?_
        try walk_at "go"
        intro r v H12 F12 S12 hv
        obtain rfl : r = none := F12.uniq (no_of (by omega) gd ap)
        obtain rfl : v = .non := hv
        have S612 := S7.trans (S8.trans (S9.trans (S911.trans S12)))
        have hS12 := hS6.same S612
        have hP12 := hP11.same S12
        have pE : prs k g = prs k (fun h => la k s h k) := by rw [eg]
        try walk_at "go"
        intro H13 S13
        have hU13 := (S9.trans (S911.trans (S12.trans S13))) _ _ hU
        have hS13 := hS12.same S13
        try walk_at "go"
        intro U2 H14 S14 told
        have hS14 := hS13.same S14
        have hU14 := S14 _ _ hU13
        obtain ⟨X, c, oU2, hX, hBc, hc⟩ : ∃ (X : Addr) (c : Tbl), H14 U2 = some (.tup [.str "settings", .ref X]) ∧ SeAt H14 X k c ∧ Bt c ∧ ∀ h, h < 2 ^ k → la k c h k = g h := by
          rcases told with ⟨X, y, f, _⟩ | ⟨X, c, _, o1, o2, o3, o4⟩
          · have := f.uniq F12
            cases this
          · exact ⟨X, c, o1, o2, o3, o4⟩
        try walk_at "go"
        intro Z hZ
        generalize eH15 : upd _ Z _ = H15
        have SH15 := newS eH15 hZ
        have oZ := newO eH15
        have hU15 := SH15 _ _ hU14
        have ec : seD k c = seD k s := seD_cong (se_uniq (by omega) hBc hB hc fun h hh => by rw [eg])
        have dX : Dp K H15 (.ref X) (seD k s) := by rw [← ec]; exact (hX.same SH15).dp
        have dT : Dp K H15 (.ref T) (seD k s) := (hS14.same SH15).dp
        have ly : Ly 3 (.tuple [.str "settings", seD k s]) := Ly.tup2 .str (seD_ly)
        have dU2 : Dp K H15 (.ref U2) (.tuple [.str "settings", seD k s]) := .tup (SqT.of (SH15 _ _ oU2)) (.cons (.str _) (.cons dX .nil))
        have dZ : Dp K H15 (.ref Z) (.tuple [.str "settings", seD k s]) := .tup (SqT.of oZ) (.cons (.str _) (.cons dT .nil))
        refine ⟨_, _, dU2, dZ, ly.sh, ly.sh, _, rfl, ?_⟩
        rw [ly.refl]
        refine ifF rfl ?_
        have hdk : hd < 2 ^ k := by omega
        have glk : gl < 2 ^ k := by omega
        try walk_at "go"
        intro H16 S16
        try walk_at "go"
        exact ⟨⟨_, _, _, rfl, S612.trans (S13.trans (S14.trans (SH15.trans S16)))⟩⟩
      rintro σ H7 ⟨w7, w8, w9, rfl, S7⟩
      exact ⟨⟨_, _, _, _, _, _, _, _, _, rfl, S1.trans (but_same hpn S2 (b36.trans (same_but S7)))⟩⟩
    rintro σ H1 ⟨v1, v2, v3, v4, v5, v6, v7, v8, v9, rfl, S1⟩
    try walk_at "go"
    exact q _
end
structure AllD (K : PySem.W.Frag) (mg : Str → Option Value) : Prop where
  d_is_whole : Df K mg "is_whole" s_is_whole ["thing"]
  d_is_within : Df K mg "is_within" s_is_within ["thing", "least", "most"]
  d_want_net : Dfd K mg "want_net" s_want_net ["k", "deepest"] [.int 4]
  d_is_line : Df K mg "is_line" s_is_line ["k", "thing"]
  d_want_hand : Df K mg "want_hand" s_want_hand ["k", "thing"]
  d_want_side : Df K mg "want_side" s_want_side ["k", "thing"]
  d_line_on_way : Df K mg "line_on_way" s_line_on_way ["k", "hand", "goal", "level"]
  d_figure_in : Df K mg "figure_in" s_figure_in ["k", "line", "stage"]
  d_number_without : Df K mg "number_without" s_number_without ["k", "line", "stage"]
  d_way : Df K mg "way" s_way ["k", "hand", "side"]
  d_switches : Df K mg "switches" s_switches ["k", "hand", "side"]
  d_want_pairs : Df K mg "want_pairs" s_want_pairs ["k", "pairs"]
  d_shared_line : Df K mg "shared_line" s_shared_line ["k", "pairs"]
  d_first_shared : Df K mg "first_shared" s_first_shared ["k", "pairs"]
  d_is_setting_row : Df K mg "is_setting_row" s_is_setting_row ["k", "thing"]
  d_is_settings : Df K mg "is_settings" s_is_settings ["k", "thing"]
  d_want_settings : Df K mg "want_settings" s_want_settings ["k", "thing"]
  d_plain_rows : Df K mg "plain_rows" s_plain_rows ["k"]
  d_as_settings : Df K mg "as_settings" s_as_settings ["rows"]
  d_led_from : Df K mg "led_from" s_led_from ["k", "settings", "hand"]
  d_led : Df K mg "led" s_led ["k", "settings"]
  d_want_sides : Df K mg "want_sides" s_want_sides ["k", "sides"]
  d_settings_by : Df K mg "settings_by" s_settings_by ["k", "sides"]
  d_settings_for : Df K mg "settings_for" s_settings_for ["k", "sides"]
  d__law_rich : Df K mg "_law_rich" s__law_rich ["_law_cell", "_law_turn"]
  d__law_purse : Df K mg "_law_purse" s__law_purse ["_law_script", "_law_k"]
  d__law_take : Df K mg "_law_take" s__law_take ["_law_purse_here", "_law_many"]
  d__law_settings : Df K mg "_law_settings" s__law_settings ["_law_purse_here", "_law_k"]
  d__law_passed : Df K mg "_law_passed" s__law_passed ["_law_k", "_law_pairs"]
  d__law_are_two : Df K mg "_law_are_two" s__law_are_two ["_law_lines", "_law_crossed"]
  d__law_by_two : Df K mg "_law_by_two" s__law_by_two ["_law_k", "_law_settings_here", "_law_pairs"]
  d__law_otherwise_clashes : Df K mg "_law_otherwise_clashes" s__law_otherwise_clashes ["_law_k", "_law_sides", "_law_hand", "_law_goal"]
  d_law : Df K mg "law" s_law ["_law_script"]
  bl : Bl K mg
theorem all_mk {w : World} {K : PySem.W.Frag} {h : Heap} {mg : Str → Option Value} (X : K.In h) (G : h.Ns mainGlobals mg)
    {f1 f2 f3 f4 f5 f6 f7 f8 f9 f10 f11 f12 f13 f14 f15 f16 f17 f18 f19 f20 f21 f22 f23 f24 f25 f26 f27 f28 f29 f30 f31 f32 f33 : Addr} {od1 an1 od2 an2 od3 an3 od4 an4 od5 an5 od6 an6 od7 an7 od8 an8 od9 an9 od10 an10 od11 an11 od12 an12 od13 an13 od14 an14 od15 an15 od16 an16 od17 an17 od18 an18 od19 an19 od20 an20 od21 an21 od22 an22 od23 an23 od24 an24 od25 an25 od26 an26 od27 an27 od28 an28 od29 an29 od30 an30 od31 an31 od32 an32 od33 an33 : Option Addr} {sl1 sl2 sl3 sl4 sl5 sl6 sl7 sl8 sl9 sl10 sl11 sl12 sl13 sl14 sl15 sl16 sl17 sl18 sl19 sl20 sl21 sl22 sl23 sl24 sl25 sl26 sl27 sl28 sl29 sl30 sl31 sl32 sl33 : Array (Option Value)} {oc1 kV1 dc1 pm1 cd1 ct1 oc2 kV2 dc2 pm2 cd2 ct2 oc3 kV3 dc3 pm3 cd3 ct3 oc4 kV4 dc4 pm4 cd4 ct4 oc5 kV5 dc5 pm5 cd5 ct5 oc6 kV6 dc6 pm6 cd6 ct6 oc7 kV7 dc7 pm7 cd7 ct7 oc8 kV8 dc8 pm8 cd8 ct8 oc9 kV9 dc9 pm9 cd9 ct9 oc10 kV10 dc10 pm10 cd10 ct10 oc11 kV11 dc11 pm11 cd11 ct11 oc12 kV12 dc12 pm12 cd12 ct12 oc13 kV13 dc13 pm13 cd13 ct13 oc14 kV14 dc14 pm14 cd14 ct14 oc15 kV15 dc15 pm15 cd15 ct15 oc16 kV16 dc16 pm16 cd16 ct16 oc17 kV17 dc17 pm17 cd17 ct17 oc18 kV18 dc18 pm18 cd18 ct18 oc19 kV19 dc19 pm19 cd19 ct19 oc20 kV20 dc20 pm20 cd20 ct20 oc21 kV21 dc21 pm21 cd21 ct21 oc22 kV22 dc22 pm22 cd22 ct22 oc23 kV23 dc23 pm23 cd23 ct23 oc24 kV24 dc24 pm24 cd24 ct24 oc25 kV25 dc25 pm25 cd25 ct25 oc26 kV26 dc26 pm26 cd26 ct26 oc27 kV27 dc27 pm27 cd27 ct27 oc28 kV28 dc28 pm28 cd28 ct28 oc29 kV29 dc29 pm29 cd29 ct29 oc30 kV30 dc30 pm30 cd30 ct30 oc31 kV31 dc31 pm31 cd31 ct31 oc32 kV32 dc32 pm32 cd32 ct32 oc33 kV33 dc33 pm33 cd33 ct33 : Value}
    {da3 : Addr}
    (a1 : PySem.W.nsIn K mainGlobals "is_whole" = some (some (.ref f1))) (l1 : K.lookup f1 = some ⟨oc1, od1, .func (PySem.W.fnOf "is_whole" "is_whole" (defArgs s_is_whole) (defBody s_is_whole) (defScope s_is_whole) .none kV1 dc1 pm1 an1 cd1 ct1), sl1⟩) (c1 : PySem.W.codeIn K cd1 "is_whole" = true) (k1 : PySem.W.keepIn K (.ref f1) = true)
    (a2 : PySem.W.nsIn K mainGlobals "is_within" = some (some (.ref f2))) (l2 : K.lookup f2 = some ⟨oc2, od2, .func (PySem.W.fnOf "is_within" "is_within" (defArgs s_is_within) (defBody s_is_within) (defScope s_is_within) .none kV2 dc2 pm2 an2 cd2 ct2), sl2⟩) (c2 : PySem.W.codeIn K cd2 "is_within" = true) (k2 : PySem.W.keepIn K (.ref f2) = true)
    (a3 : PySem.W.nsIn K mainGlobals "want_net" = some (some (.ref f3))) (l3 : K.lookup f3 = some ⟨oc3, od3, .func (PySem.W.fnOf "want_net" "want_net" (defArgs s_want_net) (defBody s_want_net) (defScope s_want_net) (.ref da3) kV3 dc3 pm3 an3 cd3 ct3), sl3⟩) (c3 : PySem.W.codeIn K cd3 "want_net" = true) (k3 : PySem.W.keepIn K (.ref f3) = true)
    {dt3_0 : Tok} {dd3 : Option Addr} {dn3 : Nat} {dz3 : Array (Option Value)} (dl3 : K.lookup da3 = some ⟨.type "tuple", dd3, .seq #[.int 4 dt3_0] dn3, dz3⟩)
    (a4 : PySem.W.nsIn K mainGlobals "is_line" = some (some (.ref f4))) (l4 : K.lookup f4 = some ⟨oc4, od4, .func (PySem.W.fnOf "is_line" "is_line" (defArgs s_is_line) (defBody s_is_line) (defScope s_is_line) .none kV4 dc4 pm4 an4 cd4 ct4), sl4⟩) (c4 : PySem.W.codeIn K cd4 "is_line" = true) (k4 : PySem.W.keepIn K (.ref f4) = true)
    (a5 : PySem.W.nsIn K mainGlobals "want_hand" = some (some (.ref f5))) (l5 : K.lookup f5 = some ⟨oc5, od5, .func (PySem.W.fnOf "want_hand" "want_hand" (defArgs s_want_hand) (defBody s_want_hand) (defScope s_want_hand) .none kV5 dc5 pm5 an5 cd5 ct5), sl5⟩) (c5 : PySem.W.codeIn K cd5 "want_hand" = true) (k5 : PySem.W.keepIn K (.ref f5) = true)
    (a6 : PySem.W.nsIn K mainGlobals "want_side" = some (some (.ref f6))) (l6 : K.lookup f6 = some ⟨oc6, od6, .func (PySem.W.fnOf "want_side" "want_side" (defArgs s_want_side) (defBody s_want_side) (defScope s_want_side) .none kV6 dc6 pm6 an6 cd6 ct6), sl6⟩) (c6 : PySem.W.codeIn K cd6 "want_side" = true) (k6 : PySem.W.keepIn K (.ref f6) = true)
    (a7 : PySem.W.nsIn K mainGlobals "line_on_way" = some (some (.ref f7))) (l7 : K.lookup f7 = some ⟨oc7, od7, .func (PySem.W.fnOf "line_on_way" "line_on_way" (defArgs s_line_on_way) (defBody s_line_on_way) (defScope s_line_on_way) .none kV7 dc7 pm7 an7 cd7 ct7), sl7⟩) (c7 : PySem.W.codeIn K cd7 "line_on_way" = true) (k7 : PySem.W.keepIn K (.ref f7) = true)
    (a8 : PySem.W.nsIn K mainGlobals "figure_in" = some (some (.ref f8))) (l8 : K.lookup f8 = some ⟨oc8, od8, .func (PySem.W.fnOf "figure_in" "figure_in" (defArgs s_figure_in) (defBody s_figure_in) (defScope s_figure_in) .none kV8 dc8 pm8 an8 cd8 ct8), sl8⟩) (c8 : PySem.W.codeIn K cd8 "figure_in" = true) (k8 : PySem.W.keepIn K (.ref f8) = true)
    (a9 : PySem.W.nsIn K mainGlobals "number_without" = some (some (.ref f9))) (l9 : K.lookup f9 = some ⟨oc9, od9, .func (PySem.W.fnOf "number_without" "number_without" (defArgs s_number_without) (defBody s_number_without) (defScope s_number_without) .none kV9 dc9 pm9 an9 cd9 ct9), sl9⟩) (c9 : PySem.W.codeIn K cd9 "number_without" = true) (k9 : PySem.W.keepIn K (.ref f9) = true)
    (a10 : PySem.W.nsIn K mainGlobals "way" = some (some (.ref f10))) (l10 : K.lookup f10 = some ⟨oc10, od10, .func (PySem.W.fnOf "way" "way" (defArgs s_way) (defBody s_way) (defScope s_way) .none kV10 dc10 pm10 an10 cd10 ct10), sl10⟩) (c10 : PySem.W.codeIn K cd10 "way" = true) (k10 : PySem.W.keepIn K (.ref f10) = true)
    (a11 : PySem.W.nsIn K mainGlobals "switches" = some (some (.ref f11))) (l11 : K.lookup f11 = some ⟨oc11, od11, .func (PySem.W.fnOf "switches" "switches" (defArgs s_switches) (defBody s_switches) (defScope s_switches) .none kV11 dc11 pm11 an11 cd11 ct11), sl11⟩) (c11 : PySem.W.codeIn K cd11 "switches" = true) (k11 : PySem.W.keepIn K (.ref f11) = true)
    (a12 : PySem.W.nsIn K mainGlobals "want_pairs" = some (some (.ref f12))) (l12 : K.lookup f12 = some ⟨oc12, od12, .func (PySem.W.fnOf "want_pairs" "want_pairs" (defArgs s_want_pairs) (defBody s_want_pairs) (defScope s_want_pairs) .none kV12 dc12 pm12 an12 cd12 ct12), sl12⟩) (c12 : PySem.W.codeIn K cd12 "want_pairs" = true) (k12 : PySem.W.keepIn K (.ref f12) = true)
    (a13 : PySem.W.nsIn K mainGlobals "shared_line" = some (some (.ref f13))) (l13 : K.lookup f13 = some ⟨oc13, od13, .func (PySem.W.fnOf "shared_line" "shared_line" (defArgs s_shared_line) (defBody s_shared_line) (defScope s_shared_line) .none kV13 dc13 pm13 an13 cd13 ct13), sl13⟩) (c13 : PySem.W.codeIn K cd13 "shared_line" = true) (k13 : PySem.W.keepIn K (.ref f13) = true)
    (a14 : PySem.W.nsIn K mainGlobals "first_shared" = some (some (.ref f14))) (l14 : K.lookup f14 = some ⟨oc14, od14, .func (PySem.W.fnOf "first_shared" "first_shared" (defArgs s_first_shared) (defBody s_first_shared) (defScope s_first_shared) .none kV14 dc14 pm14 an14 cd14 ct14), sl14⟩) (c14 : PySem.W.codeIn K cd14 "first_shared" = true) (k14 : PySem.W.keepIn K (.ref f14) = true)
    (a15 : PySem.W.nsIn K mainGlobals "is_setting_row" = some (some (.ref f15))) (l15 : K.lookup f15 = some ⟨oc15, od15, .func (PySem.W.fnOf "is_setting_row" "is_setting_row" (defArgs s_is_setting_row) (defBody s_is_setting_row) (defScope s_is_setting_row) .none kV15 dc15 pm15 an15 cd15 ct15), sl15⟩) (c15 : PySem.W.codeIn K cd15 "is_setting_row" = true) (k15 : PySem.W.keepIn K (.ref f15) = true)
    (a16 : PySem.W.nsIn K mainGlobals "is_settings" = some (some (.ref f16))) (l16 : K.lookup f16 = some ⟨oc16, od16, .func (PySem.W.fnOf "is_settings" "is_settings" (defArgs s_is_settings) (defBody s_is_settings) (defScope s_is_settings) .none kV16 dc16 pm16 an16 cd16 ct16), sl16⟩) (c16 : PySem.W.codeIn K cd16 "is_settings" = true) (k16 : PySem.W.keepIn K (.ref f16) = true)
    (a17 : PySem.W.nsIn K mainGlobals "want_settings" = some (some (.ref f17))) (l17 : K.lookup f17 = some ⟨oc17, od17, .func (PySem.W.fnOf "want_settings" "want_settings" (defArgs s_want_settings) (defBody s_want_settings) (defScope s_want_settings) .none kV17 dc17 pm17 an17 cd17 ct17), sl17⟩) (c17 : PySem.W.codeIn K cd17 "want_settings" = true) (k17 : PySem.W.keepIn K (.ref f17) = true)
    (a18 : PySem.W.nsIn K mainGlobals "plain_rows" = some (some (.ref f18))) (l18 : K.lookup f18 = some ⟨oc18, od18, .func (PySem.W.fnOf "plain_rows" "plain_rows" (defArgs s_plain_rows) (defBody s_plain_rows) (defScope s_plain_rows) .none kV18 dc18 pm18 an18 cd18 ct18), sl18⟩) (c18 : PySem.W.codeIn K cd18 "plain_rows" = true) (k18 : PySem.W.keepIn K (.ref f18) = true)
    (a19 : PySem.W.nsIn K mainGlobals "as_settings" = some (some (.ref f19))) (l19 : K.lookup f19 = some ⟨oc19, od19, .func (PySem.W.fnOf "as_settings" "as_settings" (defArgs s_as_settings) (defBody s_as_settings) (defScope s_as_settings) .none kV19 dc19 pm19 an19 cd19 ct19), sl19⟩) (c19 : PySem.W.codeIn K cd19 "as_settings" = true) (k19 : PySem.W.keepIn K (.ref f19) = true)
    (a20 : PySem.W.nsIn K mainGlobals "led_from" = some (some (.ref f20))) (l20 : K.lookup f20 = some ⟨oc20, od20, .func (PySem.W.fnOf "led_from" "led_from" (defArgs s_led_from) (defBody s_led_from) (defScope s_led_from) .none kV20 dc20 pm20 an20 cd20 ct20), sl20⟩) (c20 : PySem.W.codeIn K cd20 "led_from" = true) (k20 : PySem.W.keepIn K (.ref f20) = true)
    (a21 : PySem.W.nsIn K mainGlobals "led" = some (some (.ref f21))) (l21 : K.lookup f21 = some ⟨oc21, od21, .func (PySem.W.fnOf "led" "led" (defArgs s_led) (defBody s_led) (defScope s_led) .none kV21 dc21 pm21 an21 cd21 ct21), sl21⟩) (c21 : PySem.W.codeIn K cd21 "led" = true) (k21 : PySem.W.keepIn K (.ref f21) = true)
    (a22 : PySem.W.nsIn K mainGlobals "want_sides" = some (some (.ref f22))) (l22 : K.lookup f22 = some ⟨oc22, od22, .func (PySem.W.fnOf "want_sides" "want_sides" (defArgs s_want_sides) (defBody s_want_sides) (defScope s_want_sides) .none kV22 dc22 pm22 an22 cd22 ct22), sl22⟩) (c22 : PySem.W.codeIn K cd22 "want_sides" = true) (k22 : PySem.W.keepIn K (.ref f22) = true)
    (a23 : PySem.W.nsIn K mainGlobals "settings_by" = some (some (.ref f23))) (l23 : K.lookup f23 = some ⟨oc23, od23, .func (PySem.W.fnOf "settings_by" "settings_by" (defArgs s_settings_by) (defBody s_settings_by) (defScope s_settings_by) .none kV23 dc23 pm23 an23 cd23 ct23), sl23⟩) (c23 : PySem.W.codeIn K cd23 "settings_by" = true) (k23 : PySem.W.keepIn K (.ref f23) = true)
    (a24 : PySem.W.nsIn K mainGlobals "settings_for" = some (some (.ref f24))) (l24 : K.lookup f24 = some ⟨oc24, od24, .func (PySem.W.fnOf "settings_for" "settings_for" (defArgs s_settings_for) (defBody s_settings_for) (defScope s_settings_for) .none kV24 dc24 pm24 an24 cd24 ct24), sl24⟩) (c24 : PySem.W.codeIn K cd24 "settings_for" = true) (k24 : PySem.W.keepIn K (.ref f24) = true)
    (a25 : PySem.W.nsIn K mainGlobals "_law_rich" = some (some (.ref f25))) (l25 : K.lookup f25 = some ⟨oc25, od25, .func (PySem.W.fnOf "_law_rich" "_law_rich" (defArgs s__law_rich) (defBody s__law_rich) (defScope s__law_rich) .none kV25 dc25 pm25 an25 cd25 ct25), sl25⟩) (c25 : PySem.W.codeIn K cd25 "_law_rich" = true) (k25 : PySem.W.keepIn K (.ref f25) = true)
    (a26 : PySem.W.nsIn K mainGlobals "_law_purse" = some (some (.ref f26))) (l26 : K.lookup f26 = some ⟨oc26, od26, .func (PySem.W.fnOf "_law_purse" "_law_purse" (defArgs s__law_purse) (defBody s__law_purse) (defScope s__law_purse) .none kV26 dc26 pm26 an26 cd26 ct26), sl26⟩) (c26 : PySem.W.codeIn K cd26 "_law_purse" = true) (k26 : PySem.W.keepIn K (.ref f26) = true)
    (a27 : PySem.W.nsIn K mainGlobals "_law_take" = some (some (.ref f27))) (l27 : K.lookup f27 = some ⟨oc27, od27, .func (PySem.W.fnOf "_law_take" "_law_take" (defArgs s__law_take) (defBody s__law_take) (defScope s__law_take) .none kV27 dc27 pm27 an27 cd27 ct27), sl27⟩) (c27 : PySem.W.codeIn K cd27 "_law_take" = true) (k27 : PySem.W.keepIn K (.ref f27) = true)
    (a28 : PySem.W.nsIn K mainGlobals "_law_settings" = some (some (.ref f28))) (l28 : K.lookup f28 = some ⟨oc28, od28, .func (PySem.W.fnOf "_law_settings" "_law_settings" (defArgs s__law_settings) (defBody s__law_settings) (defScope s__law_settings) .none kV28 dc28 pm28 an28 cd28 ct28), sl28⟩) (c28 : PySem.W.codeIn K cd28 "_law_settings" = true) (k28 : PySem.W.keepIn K (.ref f28) = true)
    (a29 : PySem.W.nsIn K mainGlobals "_law_passed" = some (some (.ref f29))) (l29 : K.lookup f29 = some ⟨oc29, od29, .func (PySem.W.fnOf "_law_passed" "_law_passed" (defArgs s__law_passed) (defBody s__law_passed) (defScope s__law_passed) .none kV29 dc29 pm29 an29 cd29 ct29), sl29⟩) (c29 : PySem.W.codeIn K cd29 "_law_passed" = true) (k29 : PySem.W.keepIn K (.ref f29) = true)
    (a30 : PySem.W.nsIn K mainGlobals "_law_are_two" = some (some (.ref f30))) (l30 : K.lookup f30 = some ⟨oc30, od30, .func (PySem.W.fnOf "_law_are_two" "_law_are_two" (defArgs s__law_are_two) (defBody s__law_are_two) (defScope s__law_are_two) .none kV30 dc30 pm30 an30 cd30 ct30), sl30⟩) (c30 : PySem.W.codeIn K cd30 "_law_are_two" = true) (k30 : PySem.W.keepIn K (.ref f30) = true)
    (a31 : PySem.W.nsIn K mainGlobals "_law_by_two" = some (some (.ref f31))) (l31 : K.lookup f31 = some ⟨oc31, od31, .func (PySem.W.fnOf "_law_by_two" "_law_by_two" (defArgs s__law_by_two) (defBody s__law_by_two) (defScope s__law_by_two) .none kV31 dc31 pm31 an31 cd31 ct31), sl31⟩) (c31 : PySem.W.codeIn K cd31 "_law_by_two" = true) (k31 : PySem.W.keepIn K (.ref f31) = true)
    (a32 : PySem.W.nsIn K mainGlobals "_law_otherwise_clashes" = some (some (.ref f32))) (l32 : K.lookup f32 = some ⟨oc32, od32, .func (PySem.W.fnOf "_law_otherwise_clashes" "_law_otherwise_clashes" (defArgs s__law_otherwise_clashes) (defBody s__law_otherwise_clashes) (defScope s__law_otherwise_clashes) .none kV32 dc32 pm32 an32 cd32 ct32), sl32⟩) (c32 : PySem.W.codeIn K cd32 "_law_otherwise_clashes" = true) (k32 : PySem.W.keepIn K (.ref f32) = true)
    (a33 : PySem.W.nsIn K mainGlobals "law" = some (some (.ref f33))) (l33 : K.lookup f33 = some ⟨oc33, od33, .func (PySem.W.fnOf "law" "law" (defArgs s_law) (defBody s_law) (defScope s_law) .none kV33 dc33 pm33 an33 cd33 ct33), sl33⟩) (c33 : PySem.W.codeIn K cd33 "law" = true) (k33 : PySem.W.keepIn K (.ref f33) = true)
    (z0 : PySem.W.nsIn K mainGlobals "abs" = some none)
    (z1 : PySem.W.nsIn K mainGlobals "all" = some none)
    (z2 : PySem.W.nsIn K mainGlobals "bool" = some none)
    (z3 : PySem.W.nsIn K mainGlobals "enumerate" = some none)
    (z4 : PySem.W.nsIn K mainGlobals "int" = some none)
    (z5 : PySem.W.nsIn K mainGlobals "isinstance" = some none)
    (z6 : PySem.W.nsIn K mainGlobals "len" = some none)
    (z7 : PySem.W.nsIn K mainGlobals "list" = some none)
    (z8 : PySem.W.nsIn K mainGlobals "max" = some none)
    (z9 : PySem.W.nsIn K mainGlobals "min" = some none)
    (z10 : PySem.W.nsIn K mainGlobals "range" = some none)
    (z11 : PySem.W.nsIn K mainGlobals "sorted" = some none)
    (z12 : PySem.W.nsIn K mainGlobals "tuple" = some none)
    : AllD K mg := by
  exact ⟨Df.of l1 c1 k1 (PySem.W.mg_of X G a1) (fun _ _ _ _ _ _ us hl => match us, hl with | [_], _ => rfl), Df.of l2 c2 k2 (PySem.W.mg_of X G a2) (fun _ _ _ _ _ _ us hl => match us, hl with | [_, _, _], _ => rfl), Dfd.of (n := 1) l3 c3 k3 (PySem.W.mg_of X G a3) dl3 rfl (.cons ⟨_, rfl⟩ .nil) rfl (fun us hl => match us, hl with | [_], _ => ⟨_, rfl, rfl⟩), Df.of l4 c4 k4 (PySem.W.mg_of X G a4) (fun _ _ _ _ _ _ us hl => match us, hl with | [_, _], _ => rfl), Df.of l5 c5 k5 (PySem.W.mg_of X G a5) (fun _ _ _ _ _ _ us hl => match us, hl with | [_, _], _ => rfl), Df.of l6 c6 k6 (PySem.W.mg_of X G a6) (fun _ _ _ _ _ _ us hl => match us, hl with | [_, _], _ => rfl), Df.of l7 c7 k7 (PySem.W.mg_of X G a7) (fun _ _ _ _ _ _ us hl => match us, hl with | [_, _, _, _], _ => rfl), Df.of l8 c8 k8 (PySem.W.mg_of X G a8) (fun _ _ _ _ _ _ us hl => match us, hl with | [_, _, _], _ => rfl), Df.of l9 c9 k9 (PySem.W.mg_of X G a9) (fun _ _ _ _ _ _ us hl => match us, hl with | [_, _, _], _ => rfl), Df.of l10 c10 k10 (PySem.W.mg_of X G a10) (fun _ _ _ _ _ _ us hl => match us, hl with | [_, _, _], _ => rfl), Df.of l11 c11 k11 (PySem.W.mg_of X G a11) (fun _ _ _ _ _ _ us hl => match us, hl with | [_, _, _], _ => rfl), Df.of l12 c12 k12 (PySem.W.mg_of X G a12) (fun _ _ _ _ _ _ us hl => match us, hl with | [_, _], _ => rfl), Df.of l13 c13 k13 (PySem.W.mg_of X G a13) (fun _ _ _ _ _ _ us hl => match us, hl with | [_, _], _ => rfl), Df.of l14 c14 k14 (PySem.W.mg_of X G a14) (fun _ _ _ _ _ _ us hl => match us, hl with | [_, _], _ => rfl), Df.of l15 c15 k15 (PySem.W.mg_of X G a15) (fun _ _ _ _ _ _ us hl => match us, hl with | [_, _], _ => rfl), Df.of l16 c16 k16 (PySem.W.mg_of X G a16) (fun _ _ _ _ _ _ us hl => match us, hl with | [_, _], _ => rfl), Df.of l17 c17 k17 (PySem.W.mg_of X G a17) (fun _ _ _ _ _ _ us hl => match us, hl with | [_, _], _ => rfl), Df.of l18 c18 k18 (PySem.W.mg_of X G a18) (fun _ _ _ _ _ _ us hl => match us, hl with | [_], _ => rfl), Df.of l19 c19 k19 (PySem.W.mg_of X G a19) (fun _ _ _ _ _ _ us hl => match us, hl with | [_], _ => rfl), Df.of l20 c20 k20 (PySem.W.mg_of X G a20) (fun _ _ _ _ _ _ us hl => match us, hl with | [_, _, _], _ => rfl), Df.of l21 c21 k21 (PySem.W.mg_of X G a21) (fun _ _ _ _ _ _ us hl => match us, hl with | [_, _], _ => rfl), Df.of l22 c22 k22 (PySem.W.mg_of X G a22) (fun _ _ _ _ _ _ us hl => match us, hl with | [_, _], _ => rfl), Df.of l23 c23 k23 (PySem.W.mg_of X G a23) (fun _ _ _ _ _ _ us hl => match us, hl with | [_, _], _ => rfl), Df.of l24 c24 k24 (PySem.W.mg_of X G a24) (fun _ _ _ _ _ _ us hl => match us, hl with | [_, _], _ => rfl), Df.of l25 c25 k25 (PySem.W.mg_of X G a25) (fun _ _ _ _ _ _ us hl => match us, hl with | [_, _], _ => rfl), Df.of l26 c26 k26 (PySem.W.mg_of X G a26) (fun _ _ _ _ _ _ us hl => match us, hl with | [_, _], _ => rfl), Df.of l27 c27 k27 (PySem.W.mg_of X G a27) (fun _ _ _ _ _ _ us hl => match us, hl with | [_, _], _ => rfl), Df.of l28 c28 k28 (PySem.W.mg_of X G a28) (fun _ _ _ _ _ _ us hl => match us, hl with | [_, _], _ => rfl), Df.of l29 c29 k29 (PySem.W.mg_of X G a29) (fun _ _ _ _ _ _ us hl => match us, hl with | [_, _], _ => rfl), Df.of l30 c30 k30 (PySem.W.mg_of X G a30) (fun _ _ _ _ _ _ us hl => match us, hl with | [_, _], _ => rfl), Df.of l31 c31 k31 (PySem.W.mg_of X G a31) (fun _ _ _ _ _ _ us hl => match us, hl with | [_, _, _], _ => rfl), Df.of l32 c32 k32 (PySem.W.mg_of X G a32) (fun _ _ _ _ _ _ us hl => match us, hl with | [_, _, _, _], _ => rfl), Df.of l33 c33 k33 (PySem.W.mg_of X G a33) (fun _ _ _ _ _ _ us hl => match us, hl with | [_], _ => rfl), ⟨PySem.W.mg_none_of X G z0, PySem.W.mg_none_of X G z1, PySem.W.mg_none_of X G z2, PySem.W.mg_none_of X G z3, PySem.W.mg_none_of X G z4, PySem.W.mg_none_of X G z5, PySem.W.mg_none_of X G z6, PySem.W.mg_none_of X G z7, PySem.W.mg_none_of X G z8, PySem.W.mg_none_of X G z9, PySem.W.mg_none_of X G z10, PySem.W.mg_none_of X G z11, PySem.W.mg_none_of X G z12⟩⟩

theorem law_fd {P : Program} {w : World} {K : PySem.W.Frag} {mg : Str → Option Value} {fa : Addr} (A : AllD K mg) (hfa : mg "law" = some (.ref fa)) :
    ∃ fd : FuncData, (∀ (s : Shared) (v : Value), BindsTo s fd ⟨[v], []⟩ [("_law_script", v)]) ∧ ∀ base : Heap, K.In base → base.Ns mainGlobals mg → FnG P w K mg base CX0 12 fa fd ["_law_script"] (spLaw K) := by
  obtain ⟨f, fd, F, m, b⟩ := A.d_law.ex
  have e := hfa.symm.trans m
  cases e
  refine ⟨fd, fun s v => by obtain ⟨oc, od, kV, doc, pm, an, cdv, ct, osl, rfl, lk, hcd⟩ := F.ex; exact .of_eq rfl, fun base _ _ => ?_⟩
  have B := A.bl
  have D_is_whole : Dn P w K mg base 1 "is_whole" ["thing"] spIsWhole := k_is_whole B A.d_is_whole 
  have D_is_within : Dn P w K mg base 2 "is_within" ["thing", "least", "most"] spIsWithin := k_is_within B A.d_is_within D_is_whole
  have D_want_net : DnD P w K mg base 3 "want_net" ["k", "deepest"] [.int 4] spWantNet := k_want_net B A.d_want_net D_is_within
  have D_is_line : Dn P w K mg base 2 "is_line" ["k", "thing"] spIsLine := k_is_line B A.d_is_line D_is_whole
  have D_want_hand : Dn P w K mg base 3 "want_hand" ["k", "thing"] spWantLine := k_want_hand B A.d_want_hand D_is_line
  have D_want_side : Dn P w K mg base 3 "want_side" ["k", "thing"] spWantLine := k_want_side B A.d_want_side D_is_line
  have D_line_on_way : Dn P w K mg base 1 "line_on_way" ["k", "hand", "goal", "level"] spLow := k_line_on_way B A.d_line_on_way 
  have D_number_without : Dn P w K mg base 1 "number_without" ["k", "line", "stage"] spNwo := k_number_without B A.d_number_without 
  have D_way : Dn P w K mg base 4 "way" ["k", "hand", "side"] spWay := k_way B A.d_way D_want_net D_want_hand D_want_side D_line_on_way
  have D_switches : Dn P w K mg base 5 "switches" ["k", "hand", "side"] spSwitches := k_switches B A.d_switches D_way D_number_without
  have D__law_rich : Dn P w K mg base 1 "_law_rich" ["_law_cell", "_law_turn"] (spRich K) := k__law_rich B A.d__law_rich 
  have D__law_purse : Dn P w K mg base 1 "_law_purse" ["_law_script", "_law_k"] (spPurse K) := k__law_purse B A.d__law_purse 
  have D__law_take : Dn P w K mg base 2 "_law_take" ["_law_purse_here", "_law_many"] (spTakeP K) := k__law_take B A.d__law_take D__law_rich
  have D_want_pairs : Dn P w K mg base 4 "want_pairs" ["k", "pairs"] (spWantPairs K) := k_want_pairs B A.d_want_pairs D_want_hand D_want_side
  have D_shared_line : Dn P w K mg base 2 "shared_line" ["k", "pairs"] (spShared K) := k_shared_line B A.d_shared_line D_line_on_way
  have D_first_shared : Dn P w K mg base 5 "first_shared" ["k", "pairs"] (spShared K) := k_first_shared B A.d_first_shared D_want_net D_want_pairs D_shared_line
  have D_figure_in : Dn P w K mg base 1 "figure_in" ["k", "line", "stage"] spFig := k_figure_in B A.d_figure_in 
  have D_is_setting_row : Dn P w K mg base 2 "is_setting_row" ["k", "thing"] (spIsSR K) := k_is_setting_row B A.d_is_setting_row D_is_whole
  have D_is_settings : Dn P w K mg base 4 "is_settings" ["k", "thing"] (spIsSe K) := k_is_settings B A.d_is_settings D_want_net D_is_setting_row
  have D_want_settings : Dn P w K mg base 5 "want_settings" ["k", "thing"] (spWantSe K) := k_want_settings B A.d_want_settings D_is_settings
  have D_plain_rows : Dn P w K mg base 1 "plain_rows" ["k"] spPlain := k_plain_rows B A.d_plain_rows 
  have D_as_settings : Dn P w K mg base 1 "as_settings" ["rows"] (spAsSe K) := k_as_settings B A.d_as_settings 
  have D_led_from : Dn P w K mg base 2 "led_from" ["k", "settings", "hand"] (spLedF K) := k_led_from B A.d_led_from D_number_without
  have D_led : Dn P w K mg base 6 "led" ["k", "settings"] (spLedP K) := k_led B A.d_led D_want_net D_want_settings D_led_from
  have D_want_sides : Dn P w K mg base 3 "want_sides" ["k", "sides"] (spWantSi K) := k_want_sides B A.d_want_sides D_is_line
  have D_settings_by : Dn P w K mg base 3 "settings_by" ["k", "sides"] (spSetBy K) := k_settings_by B A.d_settings_by D_plain_rows D_figure_in D_number_without D_as_settings
  have D_settings_for : Dn P w K mg base 6 "settings_for" ["k", "sides"] (spSetFor K) := k_settings_for B A.d_settings_for D_want_net D_want_sides D_shared_line D_settings_by
  have D__law_settings : Dn P w K mg base 3 "_law_settings" ["_law_purse_here", "_law_k"] (spSettS K) := k__law_settings B A.d__law_settings D__law_take
  have D__law_passed : Dn P w K mg base 6 "_law_passed" ["_law_k", "_law_pairs"] (spPassed K) := k__law_passed B A.d__law_passed D_way D_switches
  have D__law_are_two : Dn P w K mg base 1 "_law_are_two" ["_law_lines", "_law_crossed"] (spTwo36 K) := k__law_are_two B A.d__law_are_two 
  have D__law_by_two : Dn P w K mg base 8 "_law_by_two" ["_law_k", "_law_settings_here", "_law_pairs"] (spBy36 K) := k__law_by_two B A.d__law_by_two D__law_passed D__law_are_two
  have D__law_otherwise_clashes : Dn P w K mg base 8 "_law_otherwise_clashes" ["_law_k", "_law_sides", "_law_hand", "_law_goal"] (spOth36 K) := k__law_otherwise_clashes B A.d__law_otherwise_clashes D_first_shared D_settings_for
  exact k_law B F D__law_purse D__law_take D__law_settings D_led D_first_shared D__law_by_two D_settings_for D__law_otherwise_clashes

theorem walk {l : PySem.W.OpenLaw} {q : Program} {loose : List Str} {XP : (Str → Option Value) → Heap → Prop} {YP : World → Heap → Prop} {d : DefRec} {K : Params → PySem.W.Frag} (hn : l.most = some 63) (hdf : d.params.defaults = [])
    (hY : ∀ (w : World) (h : Heap), YP w h → (K w.params).In h) (hname : d.name = "law") (F : ∀ (w : World) (mg : Str → Option Value) (h : Heap), (K w.params).In h → h.Ns mainGlobals mg → AllD (K w.params) mg) :
    PySem.W.WalkO q loose XP YP l.row.toRowW d [] (fun f vs => PySem.call f vs) :=
  walk_G (n := 63) (k := 12) (x := "_law_script") (sp := spLaw) hn (by decide) hdf ⟨rfl, by decide, by decide⟩ hY
    (fun w mg fa h KX G hfa => law_fd (F w mg h KX G) (by rw [hname] at hfa; exact hfa)) fun _ _ a ns hl hS => ⟨a, ns, rfl, hS, hl, fun _ => rfl⟩
end Toy
open PySem PySem.W PyProof.Rows
set_option maxRecDepth 100000 in
set_option maxHeartbeats 0 in
theorem PySem.Challenge.cw_joinedasks_k36_whole_each_switch_two_han_holds : PySem.Challenge.rw_joinedasks_k36_whole_each_switch_two_han.Holds := by
  w_on; o_law; k_head; (case hw => w_witness2)
  k_fill
  refine Toy.walk (l := PySem.Challenge.rw_joinedasks_k36_whole_each_switch_two_han) rfl rfl (fun w h Y => PySem.W.kIn_of Y) rfl ?F
  case F =>
    intro w mg h KX G
    refine' Toy.all_mk (w := w) KX G ?a1 ?l1 ?c1 ?k1 ?a2 ?l2 ?c2 ?k2 ?a3 ?l3 ?c3 ?k3 ?dl3 ?a4 ?l4 ?c4 ?k4 ?a5 ?l5 ?c5 ?k5 ?a6 ?l6 ?c6 ?k6 ?a7 ?l7 ?c7 ?k7 ?a8 ?l8 ?c8 ?k8 ?a9 ?l9 ?c9 ?k9 ?a10 ?l10 ?c10 ?k10 ?a11 ?l11 ?c11 ?k11 ?a12 ?l12 ?c12 ?k12 ?a13 ?l13 ?c13 ?k13 ?a14 ?l14 ?c14 ?k14 ?a15 ?l15 ?c15 ?k15 ?a16 ?l16 ?c16 ?k16 ?a17 ?l17 ?c17 ?k17 ?a18 ?l18 ?c18 ?k18 ?a19 ?l19 ?c19 ?k19 ?a20 ?l20 ?c20 ?k20 ?a21 ?l21 ?c21 ?k21 ?a22 ?l22 ?c22 ?k22 ?a23 ?l23 ?c23 ?k23 ?a24 ?l24 ?c24 ?k24 ?a25 ?l25 ?c25 ?k25 ?a26 ?l26 ?c26 ?k26 ?a27 ?l27 ?c27 ?k27 ?a28 ?l28 ?c28 ?k28 ?a29 ?l29 ?c29 ?k29 ?a30 ?l30 ?c30 ?k30 ?a31 ?l31 ?c31 ?k31 ?a32 ?l32 ?c32 ?k32 ?a33 ?l33 ?c33 ?k33 ?z0 ?z1 ?z2 ?z3 ?z4 ?z5 ?z6 ?z7 ?z8 ?z9 ?z10 ?z11 ?z12
    (case a1 => k_is)
    (case l1 => k_is)
    (case c1 => k_is)
    (case k1 => k_is)
    (case a2 => k_is)
    (case l2 => k_is)
    (case c2 => k_is)
    (case k2 => k_is)
    (case a3 => k_is)
    (case l3 => k_is)
    (case c3 => k_is)
    (case k3 => k_is)
    (case dl3 => k_is)
    (case a4 => k_is)
    (case l4 => k_is)
    (case c4 => k_is)
    (case k4 => k_is)
    (case a5 => k_is)
    (case l5 => k_is)
    (case c5 => k_is)
    (case k5 => k_is)
    (case a6 => k_is)
    (case l6 => k_is)
    (case c6 => k_is)
    (case k6 => k_is)
    (case a7 => k_is)
    (case l7 => k_is)
    (case c7 => k_is)
    (case k7 => k_is)
    (case a8 => k_is)
    (case l8 => k_is)
    (case c8 => k_is)
    (case k8 => k_is)
    (case a9 => k_is)
    (case l9 => k_is)
    (case c9 => k_is)
    (case k9 => k_is)
    (case a10 => k_is)
    (case l10 => k_is)
    (case c10 => k_is)
    (case k10 => k_is)
    (case a11 => k_is)
    (case l11 => k_is)
    (case c11 => k_is)
    (case k11 => k_is)
    (case a12 => k_is)
    (case l12 => k_is)
    (case c12 => k_is)
    (case k12 => k_is)
    (case a13 => k_is)
    (case l13 => k_is)
    (case c13 => k_is)
    (case k13 => k_is)
    (case a14 => k_is)
    (case l14 => k_is)
    (case c14 => k_is)
    (case k14 => k_is)
    (case a15 => k_is)
    (case l15 => k_is)
    (case c15 => k_is)
    (case k15 => k_is)
    (case a16 => k_is)
    (case l16 => k_is)
    (case c16 => k_is)
    (case k16 => k_is)
    (case a17 => k_is)
    (case l17 => k_is)
    (case c17 => k_is)
    (case k17 => k_is)
    (case a18 => k_is)
    (case l18 => k_is)
    (case c18 => k_is)
    (case k18 => k_is)
    (case a19 => k_is)
    (case l19 => k_is)
    (case c19 => k_is)
    (case k19 => k_is)
    (case a20 => k_is)
    (case l20 => k_is)
    (case c20 => k_is)
    (case k20 => k_is)
    (case a21 => k_is)
    (case l21 => k_is)
    (case c21 => k_is)
    (case k21 => k_is)
    (case a22 => k_is)
    (case l22 => k_is)
    (case c22 => k_is)
    (case k22 => k_is)
    (case a23 => k_is)
    (case l23 => k_is)
    (case c23 => k_is)
    (case k23 => k_is)
    (case a24 => k_is)
    (case l24 => k_is)
    (case c24 => k_is)
    (case k24 => k_is)
    (case a25 => k_is)
    (case l25 => k_is)
    (case c25 => k_is)
    (case k25 => k_is)
    (case a26 => k_is)
    (case l26 => k_is)
    (case c26 => k_is)
    (case k26 => k_is)
    (case a27 => k_is)
    (case l27 => k_is)
    (case c27 => k_is)
    (case k27 => k_is)
    (case a28 => k_is)
    (case l28 => k_is)
    (case c28 => k_is)
    (case k28 => k_is)
    (case a29 => k_is)
    (case l29 => k_is)
    (case c29 => k_is)
    (case k29 => k_is)
    (case a30 => k_is)
    (case l30 => k_is)
    (case c30 => k_is)
    (case k30 => k_is)
    (case a31 => k_is)
    (case l31 => k_is)
    (case c31 => k_is)
    (case k31 => k_is)
    (case a32 => k_is)
    (case l32 => k_is)
    (case c32 => k_is)
    (case k32 => k_is)
    (case a33 => k_is)
    (case l33 => k_is)
    (case c33 => k_is)
    (case k33 => k_is)
    (case z0 => k_is)
    (case z1 => k_is)
    (case z2 => k_is)
    (case z3 => k_is)
    (case z4 => k_is)
    (case z5 => k_is)
    (case z6 => k_is)
    (case z7 => k_is)
    (case z8 => k_is)
    (case z9 => k_is)
    (case z10 => k_is)
    (case z11 => k_is)
    (case z12 => k_is)
#print axioms PySem.Challenge.cw_joinedasks_k36_whole_each_switch_two_han_holds

