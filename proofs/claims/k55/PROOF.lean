import PyProof.Rows.All
import Wide.All
import OpenK.AllK
import Wide.FinOn
import HandS.ForMost
import HandS.Defaults
import HandS.WideBits
import HandS.Conv
import HandS.IsInst
import HandS.RaiseMore
import HandS.SortInts
import HandS.Style
import HandS.Codes
import HandS.ForExc
import HandS.TryMany
import HandS.Flow
import KE.KEqSeq
import PyProof.ReprRoads
import KE.GoesMore
import KE.KDictZip
import PyProof.ListNew
import HandS.SetFor
import HandS.Zip
import HandS.TupAny
import HandS.TupLen
import KE.KDictDisplayH
import KE.KDictSum
import HandS.Sort
import HandS.More
import HandS.Text
import HandS.Strs
import HandS.Iter
import PyProof.DictUpdate
import HandS.TupSets
import HandS.Keys
import PyProof.P3In
import PySem.Challenge.RW_joinedasks_k55_room_and_kept
set_option Elab.async false
set_option linter.all false
set_option maxRecDepth 100000
set_option maxHeartbeats 4000000
set_option exponentiation.threshold 100000
namespace Toy
open PySem PySem.Spec PyProof.Rows L2
/-- a def of the text stands behind its name -/
structure Df (K : PySem.W.Frag) (mg : Str → Option Value) (x : Str) (st : Stmt) (ps : List Str) : Prop where
  ex : ∃ f fd, Fun K x x st f fd ∧ mg x = some (.ref f) ∧ Binds K fd ps []
theorem Df.of {K : PySem.W.Frag} {mg : Str → Option Value} {x : Str} {st : Stmt} {ps : List Str} {f : Addr} {oc : Value} {od an : Option Addr} {osl : Array (Option Value)} {kV doc pm cdv ct : Value}
    (l : K.lookup f = some ⟨oc, od, .func (PySem.W.fnOf x x (defArgs st) (defBody st) (defScope st) .none kV doc pm an cdv ct), osl⟩) (c : PySem.W.codeIn K cdv x = true) (k : PySem.W.keepIn K (.ref f) = true) (m : mg x = some (.ref f))
    (h : ∀ (kV doc pm : Value) (an : Option Addr) (cdv ct : Value) (us : List Value), us.length = ps.length → bindArgs (PySem.W.fnOf x x (defArgs st) (defBody st) (defScope st) .none kV doc pm an cdv ct) ⟨us, []⟩ = pure (ps.zip us)) : Df K mg x st ps :=
  ⟨_, _, fun_mk l c k, m, (fun_mk l c k).binds h⟩
end Toy
namespace Toy
open PySem PySem.Spec PyProof.Rows L2
/-- room for calls, and nothing is being shown (repr, str of containers ask that) -/
structure RoomG (k : Nat) (A : Around) : Prop where
  room : Room k A
  idle : A.guards = some []
theorem RoomG.less {j k : Nat} {A : Around} (r : RoomG k A) (h : j ≤ k) : RoomG j A := ⟨r.room.mono h, r.idle⟩
theorem RoomG.units {k : Nat} {A : Around} (r : RoomG k A) : A.units + 64 < cLine := r.room.units
theorem RoomG.in_ {k : Nat} {A : Around} (r : RoomG (k + 1) A) (env : Env) : RoomG k (A.deeper env) := ⟨r.room.deeper env, r.idle⟩
/-- a def's promise under such a call -/
structure FnG (P : Program) (w : World) (K : PySem.W.Frag) (mg : Str → Option Value) (base : Heap) (CX : CXT) (k : Nat) (f : Addr) (fd : FuncData) (ps : List Str) (sp : Sp) : Prop where
  arity : ∀ vs H Q E, sp vs H Q E → vs.length = ps.length
  go : ∀ {A : Around} {outer : List Env} {s : Shared} {H : Hp} {args : Args} {us : List Value} {vs : List V} {Q : VK} {E : XK}, RoomG k A → Env0 P w K mg base A outer s H →
    BindsTo s fd args (ps.zip us) → Vals vs us → sp vs H Q E → codeAny (model P w) A (.call (.ref f) args) (CR CX outer P w H s Q E) s
section
variable {P : Program} {w : World} {K : PySem.W.Frag} {mg : Str → Option Value} {base : Heap} {CX : CXT}
/-- a body that ends well ends the call well -/
theorem flow_end {N : List Str} {qual : Str} {scope : Scope} {f : Addr} {cd : Value} {A : Around} {outer : List Env} {s : Shared} {H : Hp} {Q : VK} {E : XK} {fl : Flow} {s' : Shared}
    (h : SP (cxOf CX P w K mg base N qual scope f cd A outer s H E) [] { nx := fun _ H' => Q .non H', rt := Q } fl s') :
    ∃ u, (fl = .next ∧ u = Value.none ∨ fl = .ret u) ∧ CE outer P w H s Q u s' := by
  cases fl with
  | next =>
    obtain ⟨σ, H1, J, q⟩ := h
    exact ⟨_, .inl ⟨rfl, rfl⟩, .non, H1, J.os, J.bare, J.base, J.hok, rfl, q⟩
  | ret u =>
    obtain ⟨v, σ, H1, J, r, q⟩ := h
    exact ⟨u, .inr rfl, v, H1, J.os, J.bare, J.base, J.hok, r, q⟩
  | brk =>
    obtain ⟨_, _, _, q⟩ := h
    cases q
  | cont =>
    obtain ⟨_, _, _, q⟩ := h
    cases q
/-- a def of the text, whatever its defaults -/
structure FunA (K : PySem.W.Frag) (x qual : Str) (st : Stmt) (f : Addr) (fd : FuncData) : Prop where
  ex : ∃ (oc : Value) (od : Option Addr) (dV kV doc pm : Value) (an : Option Addr) (cdv ct : Value) (osl : Array (Option Value)),
    fd = PySem.W.fnOf x qual (defArgs st) (defBody st) (defScope st) dV kV doc pm an cdv ct ∧ K.lookup f = some ⟨oc, od, .func fd, osl⟩ ∧ PySem.W.codeIn K cdv qual = true
theorem toA {K : PySem.W.Frag} {x qual : Str} {st : Stmt} {f : Addr} {fd : FuncData} (F : Fun K x qual st f fd) : FunA K x qual st f fd := by
  obtain ⟨oc, od, kV, doc, pm, an, cdv, ct, osl, e, lk, hcd⟩ := F.ex
  exact ⟨⟨oc, od, .none, kV, doc, pm, an, cdv, ct, osl, e, lk, hcd⟩⟩
theorem okGA {x qual : Str} {st : Stmt} {f : Addr} {fd : FuncData} {N ps : List Str} {k : Nat} {sp : Sp} (F : FunA K x qual st f fd) (S : FnScope N ps (defScope st)) (ar : ∀ vs H Q E, sp vs H Q E → vs.length = ps.length)
    (body : ∀ (cdv : Value) (A : Around) (outer : List Env) (s : Shared) (H : Hp) (vs : List V) (Q : VK) (E : XK), RoomG k (A.deeper (envOfC qual (defScope st) s.heap.objs.size f cdv)) → sp vs H Q E →
      ∃ t, PSs (cxOf CX P w K mg base N qual (defScope st) f cdv A outer s H E) (defBody st) t ∧ t { nx := fun _ H' => Q .non H', rt := Q } (start N vs) H) : FnG P w K mg base CX (k + 1) f fd ps sp := by
  obtain ⟨oc, od, dV, kV, doc, pm, an, cdv, ct, osl, rfl, lk, hcd⟩ := F.ex
  refine ⟨ar, ?_⟩
  intro A outer s H args us vs Q E room e0 hb rv hsp
  have kin : K.In s.heap := e0.mod.kin.keeps fun b o z => (e0.bs b o z).1
  have nolim : s.heap.NoLimit := e0.mod.nolimit.keeps fun b o z => (e0.bs b o z).1
  have kinds : ∀ y ∈ ps.zip us, (defScope st).names.lookup y.1 = some .local ∨ ((defScope st).names.lookup y.1 = some .cell ∧ ((cellsFrom (s.heap.objs.size + 1) (defScope st).names []).lookup y.1).isSome = true) := by
    rintro ⟨n, v⟩ hy
    exact (S.par n (List.of_mem_zip hy).1).imp _root_.id fun q => ⟨q, PySem.W.cellsFrom_some _ _ _ (.inl q)⟩
  refine codeAny_call_function room.room.depth (kin _ _ lk) rfl S.co S.gen rfl (PySem.W.codeRec_of kin hcd) (hb _ _ _ _ (wpAny_newFunctionEnv_cells S.kind kinds fun env he s1 inC => ?_))
  subst he
  obtain ⟨t, ht, hq⟩ := body cdv A outer s H vs Q E (room.in_ _) hsp
  refine ⟨nolim.keeps inC.toInCall.keep, codeAny_func (wpAny_mono (ht.run [] s1 (start N vs) H _ (inv_start S room.room.hd e0 (ar _ _ _ _ hsp) rv inC) hq) (fun fl s' z => ?_) fun e s' z => z)⟩
  obtain ⟨u, c, q⟩ := flow_end z
  rcases c with ⟨rfl, rfl⟩ | rfl
  · exact q
  · exact q
theorem okG0A {x qual : Str} {st : Stmt} {f : Addr} {fd : FuncData} {N ps : List Str} {k : Nat} {sp : Sp} (F : FunA K x qual st f fd) (S : FnScope N ps (defScope st)) (ar : ∀ vs H Q E, sp vs H Q E → vs.length = ps.length)
    (body : ∀ (cdv : Value) (A : Around) (outer : List Env) (s : Shared) (H : Hp) (vs : List V) (Q : VK) (E : XK), RoomG k (A.deeper (envOfC qual (defScope st) s.heap.objs.size f cdv)) → sp vs H Q E →
      ∃ t, PSs (cxOf CX0 P w K mg base N qual (defScope st) f cdv A outer s H E).nox (defBody st) t ∧ t { nx := fun _ H' => Q .non H', rt := Q } (start N vs) H) : FnG P w K mg base CX0 (k + 1) f fd ps sp :=
  okGA F S ar fun cdv A outer s H vs Q E hr hsp => (body cdv A outer s H vs Q E hr hsp).imp fun _ z => ⟨z.1.nox, z.2⟩
theorem okG {x qual : Str} {st : Stmt} {f : Addr} {fd : FuncData} {N ps : List Str} {k : Nat} {sp : Sp} (F : Fun K x qual st f fd) (S : FnScope N ps (defScope st)) (ar : ∀ vs H Q E, sp vs H Q E → vs.length = ps.length)
    (body : ∀ (cdv : Value) (A : Around) (outer : List Env) (s : Shared) (H : Hp) (vs : List V) (Q : VK) (E : XK), RoomG k (A.deeper (envOfC qual (defScope st) s.heap.objs.size f cdv)) → sp vs H Q E →
      ∃ t, PSs (cxOf CX P w K mg base N qual (defScope st) f cdv A outer s H E) (defBody st) t ∧ t { nx := fun _ H' => Q .non H', rt := Q } (start N vs) H) : FnG P w K mg base CX (k + 1) f fd ps sp :=
  okGA (toA F) S ar body
theorem okG0 {x qual : Str} {st : Stmt} {f : Addr} {fd : FuncData} {N ps : List Str} {k : Nat} {sp : Sp} (F : Fun K x qual st f fd) (S : FnScope N ps (defScope st)) (ar : ∀ vs H Q E, sp vs H Q E → vs.length = ps.length)
    (body : ∀ (cdv : Value) (A : Around) (outer : List Env) (s : Shared) (H : Hp) (vs : List V) (Q : VK) (E : XK), RoomG k (A.deeper (envOfC qual (defScope st) s.heap.objs.size f cdv)) → sp vs H Q E →
      ∃ t, PSs (cxOf CX0 P w K mg base N qual (defScope st) f cdv A outer s H E).nox (defBody st) t ∧ t { nx := fun _ H' => Q .non H', rt := Q } (start N vs) H) : FnG P w K mg base CX0 (k + 1) f fd ps sp :=
  okG0A (toA F) S ar body
end
section
variable {X : Cx} {CX : CXT} {k : Nat} {f : Addr} {fd : FuncData} {ps : List Str} {sp : Sp}
theorem run_G {pins : List (Addr × Obj)} {σ : L2.St} {H : Hp} {s : Shared} {Q : VK} {E : XK} {us : List Value} {vs : List V} (F : FnG X.prog X.w X.K X.mg X.base CX k f fd ps sp) (hr : RoomG k X.A) (hb : Binds X.K fd ps [])
    (out : ∀ e s', CX X.stack H s E e s' → X.xe e s') (I : Inv X pins σ H s) (r : Vals vs us) (h : sp vs H Q E) : wpAny (model X.prog X.w) X.A (call (.ref f) us) (EP X pins σ Q) X.xe s := by
  have n := (r.length).symm.trans (F.arity _ _ _ _ h)
  have b := hb s us I.kIn (by rw [List.append_nil, n])
  rw [List.append_nil] at b
  refine wpAny_call (codeAny_mono (F.go hr I.env0 b r h) ?_)
  rintro (e | fl) s' q
  · exact out e s' q
  · match fl, q with
    | .ret u, q => exact I.after q
/-- a def and its promise, by its name -/
structure Dn (P : Program) (w : World) (K : PySem.W.Frag) (mg : Str → Option Value) (base : Heap) (k : Nat) (x : Str) (ps : List Str) (sp : Sp) : Prop where
  ex : ∃ f fd, FnG P w K mg base CX0 k f fd ps sp ∧ PySem.W.keepIn K (.ref f) = true ∧ mg x = some (.ref f) ∧ Binds K fd ps []
/-- .. that may raise -/
structure Dx (P : Program) (w : World) (K : PySem.W.Frag) (mg : Str → Option Value) (base : Heap) (k : Nat) (x : Str) (ps : List Str) (sp : Sp) : Prop where
  ex : ∃ f fd, FnG P w K mg base (L2.CX P w) k f fd ps sp ∧ PySem.W.keepIn K (.ref f) = true ∧ mg x = some (.ref f) ∧ Binds K fd ps []
theorem Df.ok {P : Program} {w : World} {K : PySem.W.Frag} {mg : Str → Option Value} {base : Heap} {x : Str} {st : Stmt} (D : Df K mg x st ps)
    (h : ∀ f fd, Fun K x x st f fd → FnG P w K mg base CX0 k f fd ps sp) : Dn P w K mg base k x ps sp := by
  obtain ⟨f, fd, F, m, b⟩ := D.ex
  exact ⟨f, fd, h f fd F, F.kp, m, b⟩
theorem Df.okX {P : Program} {w : World} {K : PySem.W.Frag} {mg : Str → Option Value} {base : Heap} {x : Str} {st : Stmt} (D : Df K mg x st ps)
    (h : ∀ f fd, Fun K x x st f fd → FnG P w K mg base (L2.CX P w) k f fd ps sp) : Dx P w K mg base k x ps sp := by
  obtain ⟨f, fd, F, m, b⟩ := D.ex
  exact ⟨f, fd, h f fd F, F.kp, m, b⟩
variable {x : Str} {p pos : Pos} {e : Expr} {es : List Expr} {t : TA}
theorem pe_cD (D : Dn X.prog X.w X.K X.mg X.base k x ps sp) (hr : RoomG k X.A) (hg : Gl X x) (ha : PA X (e :: es) t) (hdb : (x == ("__debug__" : Str)) = false := by decide)
    (he : starEach (e :: es) X.env = (false, eval e X.env) :: starEach es X.env := by rfl) (hpl : (backTo pos (starEach es X.env)).any (·.1) = false := by rfl) : PE X (.Call (.Name x p) (e :: es) [] pos) (tCall sp [] E0 t) := by
  obtain ⟨f, fd, F, hk, hm, hb⟩ := D.ex
  refine ⟨fun pins s σ H Q I h => wpAny_Call_Name_kw (ld_glob I hg hm (PySem.W.callWith_K (h₀ := X.base) I.ok.mod.kin hk (thn (ha.run pos pins s σ H _ I h) fun us s1 ⟨vs, H1, I1, r, q⟩ => ⟨I1.kIn, ?_⟩) he hpl) hdb)⟩
  have q' : sp vs H1 Q E0 := by
    have z : sp (vs ++ []) H1 Q E0 := q
    rw [List.append_nil] at z
    exact z
  exact run_G F hr hb (fun _ _ z => z.elim) I1 r q'
theorem pe_cD0 (D : Dn X.prog X.w X.K X.mg X.base k x ps sp) (hr : RoomG k X.A) (hg : Gl X x) (hdb : (x == ("__debug__" : Str)) = false := by decide) : PE X (.Call (.Name x p) [] [] pos) (tCall sp [] E0 tNil) := by
  obtain ⟨f, fd, F, hk, hm, hb⟩ := D.ex
  refine ⟨fun pins s σ H Q I h => wpAny_Call_Name_kw (ld_glob I hg hm (PySem.W.callWith_K0 I.kIn hk (run_G (us := []) F hr hb (fun _ _ z => z.elim) I .nil h)) hdb)⟩
/-- a def with defaults: dvs fill up -/
structure Dfd (K : PySem.W.Frag) (mg : Str → Option Value) (x : Str) (st : Stmt) (ps : List Str) (dvs : List V) : Prop where
  ex : ∃ (f : Addr) (fd : FuncData) (ds : List Value), FunA K x x st f fd ∧ PySem.W.keepIn K (.ref f) = true ∧ mg x = some (.ref f) ∧ Binds K fd ps ds ∧ Vals dvs ds
theorem Dfd.of {K : PySem.W.Frag} {mg : Str → Option Value} {x : Str} {st : Stmt} {ps : List Str} {dvs : List V} {f T : Addr} {oc : Value} {od an : Option Addr} {osl : Array (Option Value)} {kV doc pm cdv ct : Value} {o : Obj} {its : List Value} {n m : Nat}
    (l : K.lookup f = some ⟨oc, od, .func (PySem.W.fnOf x x (defArgs st) (defBody st) (defScope st) (.ref T) kV doc pm an cdv ct), osl⟩) (c : PySem.W.codeIn K cdv x = true) (k : PySem.W.keepIn K (.ref f) = true) (mx : mg x = some (.ref f))
    (lT : K.lookup T = some o) (oT : o.data = .seq its.toArray m) (rT : Vals dvs its) (hn : n + dvs.length = ps.length)
    (h : ∀ (us : List Value), us.length = n → ∃ kk, bindArgs (PySem.W.fnOf x x (defArgs st) (defBody st) (defScope st) (.ref T) kV doc pm an cdv ct) ⟨us, []⟩ = seqItems? (.ref T) >>= kk ∧ kk (some its.toArray) = pure (ps.zip (us ++ its))) : Dfd K mg x st ps dvs := by
  refine ⟨f, _, its, ⟨⟨_, _, _, _, _, _, _, _, _, _, rfl, l, c⟩⟩, k, mx, fun s us X hlen => ?_, rT⟩
  have l1 := rT.length
  have l2 : us.length = n := by
    rw [List.length_append] at hlen
    omega
  obtain ⟨kk, e1, e2⟩ := h us l2
  refine BindsTo.of_looks fun M => ?_
  rw [e1]
  exact looks_items X lT oT (.of_pure e2)
/-- .. all parameters given -/
theorem Dfd.ofAll {K : PySem.W.Frag} {mg : Str → Option Value} {x : Str} {st : Stmt} {ps : List Str} {f T : Addr} {oc : Value} {od an : Option Addr} {osl : Array (Option Value)} {kV doc pm cdv ct : Value} {o : Obj} {its : List Value} {n m : Nat}
    (l : K.lookup f = some ⟨oc, od, .func (PySem.W.fnOf x x (defArgs st) (defBody st) (defScope st) (.ref T) kV doc pm an cdv ct), osl⟩) (c : PySem.W.codeIn K cdv x = true) (k : PySem.W.keepIn K (.ref f) = true) (mx : mg x = some (.ref f))
    (lT : K.lookup T = some o) (oT : o.data = .seq its.toArray m) (hn : n = ps.length)
    (h : ∀ (us : List Value), us.length = n → ∃ kk, bindArgs (PySem.W.fnOf x x (defArgs st) (defBody st) (defScope st) (.ref T) kV doc pm an cdv ct) ⟨us, []⟩ = seqItems? (.ref T) >>= kk ∧ kk (some its.toArray) = pure (ps.zip us)) : Dfd K mg x st ps [] := by
  refine ⟨f, _, [], ⟨⟨_, _, _, _, _, _, _, _, _, _, rfl, l, c⟩⟩, k, mx, fun s us X hlen => ?_, .nil⟩
  have l2 : us.length = n := by
    rw [List.append_nil] at hlen
    omega
  obtain ⟨kk, e1, e2⟩ := h us l2
  refine BindsTo.of_looks fun M => ?_
  rw [e1, List.append_nil]
  exact looks_items X lT oT (.of_pure e2)
/-- .. and its promise -/
structure DnD (P : Program) (w : World) (K : PySem.W.Frag) (mg : Str → Option Value) (base : Heap) (k : Nat) (x : Str) (ps : List Str) (dvs : List V) (sp : Sp) : Prop where
  ex : ∃ (f : Addr) (fd : FuncData) (ds : List Value), FnG P w K mg base CX0 k f fd ps sp ∧ PySem.W.keepIn K (.ref f) = true ∧ mg x = some (.ref f) ∧ Binds K fd ps ds ∧ Vals dvs ds
theorem Dfd.ok {P : Program} {w : World} {K : PySem.W.Frag} {mg : Str → Option Value} {base : Heap} {x : Str} {st : Stmt} {dvs : List V} (D : Dfd K mg x st ps dvs)
    (h : ∀ f fd, FunA K x x st f fd → FnG P w K mg base CX0 k f fd ps sp) : DnD P w K mg base k x ps dvs sp := by
  obtain ⟨f, fd, ds, F, kp, m, b, d⟩ := D.ex
  exact ⟨f, fd, ds, h f fd F, kp, m, b, d⟩
theorem run_Gd {pins : List (Addr × Obj)} {σ : L2.St} {H : Hp} {s : Shared} {Q : VK} {E : XK} {us ds : List Value} {vs dvs : List V} (F : FnG X.prog X.w X.K X.mg X.base CX k f fd ps sp) (hr : RoomG k X.A) (hb : Binds X.K fd ps ds) (hd : Vals dvs ds)
    (out : ∀ e s', CX X.stack H s E e s' → X.xe e s') (I : Inv X pins σ H s) (r : Vals vs us) (h : sp (vs ++ dvs) H Q E) : wpAny (model X.prog X.w) X.A (call (.ref f) us) (EP X pins σ Q) X.xe s := by
  have r2 : Vals (vs ++ dvs) (us ++ ds) := r.append hd
  have n : (us ++ ds).length = ps.length := by rw [← r2.length]; exact F.arity _ _ _ _ h
  refine wpAny_call (codeAny_mono (F.go hr I.env0 (hb s us I.kIn n) r2 h) ?_)
  rintro (e | fl) s' q
  · exact out e s' q
  · match fl, q with
    | .ret u, q => exact I.after q
theorem pe_cDd {dvs : List V} (D : DnD X.prog X.w X.K X.mg X.base k x ps dvs sp) (hr : RoomG k X.A) (hg : Gl X x) (ha : PA X (e :: es) t) (hdb : (x == ("__debug__" : Str)) = false := by decide)
    (he : starEach (e :: es) X.env = (false, eval e X.env) :: starEach es X.env := by rfl) (hpl : (backTo pos (starEach es X.env)).any (·.1) = false := by rfl) : PE X (.Call (.Name x p) (e :: es) [] pos) (tCall sp dvs E0 t) := by
  obtain ⟨f, fd, ds, F, hk, hm, hb, hd⟩ := D.ex
  refine ⟨fun pins s σ H Q I h => wpAny_Call_Name_kw (ld_glob I hg hm (PySem.W.callWith_K (h₀ := X.base) I.ok.mod.kin hk (thn (ha.run pos pins s σ H _ I h) fun us s1 ⟨vs, H1, I1, r, q⟩ => ⟨I1.kIn, ?_⟩) he hpl) hdb)⟩
  exact run_Gd F hr hb hd (fun _ _ z => z.elim) I1 r q
/-- a call within a try: what is raised is wished at the slots -/
theorem pe_cX {E : L2.St → XK} (D : Dx X.prog X.w X.K X.mg X.base k x ps sp) (hr : RoomG k X.A) (hg : Gl X x) (hx : ∀ σ, PassesAt (L2.CX X.prog X.w) X σ (E σ)) (ha : PA X (e :: es) t) (hdb : (x == ("__debug__" : Str)) = false := by decide)
    (he : starEach (e :: es) X.env = (false, eval e X.env) :: starEach es X.env := by rfl) (hpl : (backTo pos (starEach es X.env)).any (·.1) = false := by rfl) : PE X (.Call (.Name x p) (e :: es) [] pos) (tCallS sp E t) := by
  obtain ⟨f, fd, F, hk, hm, hb⟩ := D.ex
  exact ⟨fun pins s σ H Q I h => wpAny_Call_Name_kw (ld_glob I hg hm (PySem.W.callWith_K (h₀ := X.base) I.ok.mod.kin hk (thn (ha.run pos pins s σ H _ I h) fun us s1 ⟨vs, H1, I1, r, q⟩ =>
    ⟨I1.kIn, run_G F hr hb (fun e s' z => hx σ pins H1 s1 e s' I1 z) I1 r q⟩) he hpl) hdb)⟩
/-- repr of what is data -/
def rRepr (K : PySem.W.Frag) : List V → Hp → VK → Prop := fun xs H Q => ∃ (x : V) (d : PyData), xs = [x] ∧ Dp K H x d ∧ d.showable = true ∧ d.depth ≤ 60 ∧ d.shown.length ≤ sizeLine ∧ Q (.str d.shown) H
mutual
theorem dp_noDict {K : PySem.W.Frag} {H : Hp} : ∀ (d : PyData) (x : V), Dp K H x d → d.hasDict = false
  | .none, _, _ => rfl
  | .bool _, _, _ => rfl
  | .int _, _, _ => rfl
  | .str _, _, _ => rfl
  | .list ds, _, h => by
    cases h with
    | lst _ ha => simpa [PyData.hasDict] using dp_noDicts ds _ ha
  | .tuple ds, _, h => by
    cases h with
    | tup _ ha => simpa [PyData.hasDict] using dp_noDicts ds _ ha
  | .dict _, _, h => by cases h
theorem dp_noDicts {K : PySem.W.Frag} {H : Hp} : ∀ (ds : List PyData) (xs : List V), DpAll K H xs ds → PyData.hasDictAll ds = false
  | [], _, _ => by simp [PyData.hasDictAll]
  | d :: ds, _, h => by
    cases h with
    | cons a b => simp [PyData.hasDictAll, dp_noDict d _ a, dp_noDicts ds _ b]
end
theorem reprK {K : PySem.W.Frag} (hr : RoomG k X.A) (eK : X.K = K := by rfl) : CallR X (.builtin "repr") (rRepr K) := by
  cases eK
  intro pins s σ H xs us Q I r h
  obtain ⟨x, d, rfl, hd, hs, hdep, hz, q⟩ := h
  obtain ⟨u, rfl, rx⟩ := vals1 r
  obtain ⟨as, rd⟩ := Dp.reads I d x u hd rx
  have hu := hr.units
  have nd := dp_noDict d x hd
  cases hd with
  | non => cases rx; exact PySem.P.repr_of_none ⟨.str _, H, I.tok _, ⟨_, rfl⟩, q⟩
  | bl b => cases rx; exact PySem.P.repr_of_bool ⟨.str _, H, I.tok _, ⟨_, rfl⟩, q⟩
  | int i => obtain ⟨t, rfl⟩ := rx; exact PySem.P.repr_of_int (of_decide_eq_true (by simpa [PyData.showable] using hs)) ⟨.str _, H, I.tok _, ⟨_, rfl⟩, q⟩
  | str z => obtain ⟨t, rfl⟩ := rx; exact PySem.P.repr_of_str ⟨.str _, H, I.tok _, ⟨_, rfl⟩, q⟩ hz
  | lst hq ha =>
    cases rx
    refine repr_of_reads' rd hs (PyData.noDict_hsm nd) hr.idle (by omega) (fun _ _ z => z) (fun h' u tk hk => ⟨.str _, H, I.kept hk, ⟨_, rfl⟩, q⟩) hz
  | tup hq ha =>
    cases rx
    refine repr_of_reads' rd hs (PyData.noDict_hsm nd) hr.idle (by omega) (fun _ _ z => z) (fun h' u tk hk => ⟨.str _, H, I.kept hk, ⟨_, rfl⟩, q⟩) hz
end
end Toy
namespace Toy
open PySem PySem.Spec PyProof.Rows L2
/-- what was tracked stays, but for one object -/
def But (p : Addr) (H H' : Hp) : Prop := ∀ b o, b ≠ p → H b = some o → H' b = some o
theorem But.refl {p : Addr} {H : Hp} : But p H H := fun _ _ _ h => h
theorem But.trans {p : Addr} {H H1 H2 : Hp} (a : But p H H1) (b : But p H1 H2) : But p H H2 := fun c o n h => b c o n (a c o n h)
theorem But.free {p : Addr} {H H' : Hp} (e : But p H H') {l : Addr} (n : l ≠ p) (h : H' l = Option.none) : H l = Option.none := by
  cases q : H l with
  | none => rfl
  | some o =>
    rw [e l o n q] at h
    cases h
theorem same_but {p : Addr} {H H' : Hp} (a : Same H H') : But p H H' := fun c o _ h => a c o h
theorem But.upd {p : Addr} {H : Hp} {o : HO} : But p H (upd H p o) := fun b u n h => by rw [upd_ne n]; exact h
theorem same_new {H : Hp} {p : Addr} (h : H p = none) (o : HO) : Same H (upd H p o) := fun b u q => by rw [upd_ne (ne_of_none q h)]; exact q
theorem but_tup {p : Addr} {K : PySem.W.Frag} {H H' : Hp} {a : Addr} {xs ys : List V} (e : But p H H') (hp : H p = some (.lst ys)) (h : SqT K H a xs) : SqT K H' a xs := by
  rcases h with (h | ⟨o, h⟩) | h
  · exact .inl (.inl (e _ _ (ne_of h hp (by intro z; cases z)) h))
  · exact .inl (.inr ⟨o, e _ _ (ne_of h hp (by intro z; cases z)) h⟩)
  · exact .inr h
theorem same_tup {K : PySem.W.Frag} {H H' : Hp} {a : Addr} {xs : List V} (e : Same H H') (h : SqT K H a xs) : SqT K H' a xs := by
  rcases h with (h | ⟨o, h⟩) | h
  · exact .inl (.inl (e _ _ h))
  · exact .inl (.inr ⟨o, e _ _ h⟩)
  · exact .inr h
/-- the script stays -/
theorem but_seq {p : Addr} {K : PySem.W.Frag} {H H' : Hp} {a : Addr} {xs : List V} (e : But p H H') (n : a ≠ p) (h : SqL K H a xs) : SqL K H' a xs := by
  rcases h with (h | ⟨o, h⟩) | h
  · exact .inl (.inl (e _ _ n h))
  · exact .inl (.inr ⟨o, e _ _ n h⟩)
  · exact .inr h
theorem small {n : Nat} (h : n ≤ 1000) : n ≤ sizeLine := Nat.le_of_lt (small1000 h)
theorem log_lt {i : Int} {n : Nat} (h0 : 0 < n) (h : i.natAbs < 2 ^ n) : i.natAbs.log2 < n := PySem.Flt.log2_lt_of h0 h
theorem divp_small {i j : Int} (hj : 0 < j) (h : j < 2 ^ 8000) : CDivP i j := by
  refine ⟨hj, PyProof.noPylong_of_log2 ?_⟩
  exact Nat.lt_trans (log_lt (n := 8000) (by decide) (by omega)) (by decide)
end Toy
namespace Toy
open PySem PySem.Spec PyProof.Rows L2
theorem ifT {c : Bool} {A B : Prop} (hc : c = true) (h : A) : if c = true then A else B := by rw [if_pos hc]; exact h
theorem ifF {c : Bool} {A B : Prop} (hc : c = false) (h : B) : if c = true then A else B := by rw [hc]; exact iteF h
theorem pj {j : Int} (h : decide ((0 : Int) < j) = true := by decide) : 0 < j := of_decide_eq_true h
theorem sz {xs : List V} (h : Nat.ble xs.length 1000 = true := by rfl) : xs.length ≤ sizeLine := small (Nat.le_of_ble_eq_true h)
theorem but_same {p : Addr} {H H1 H2 : Hp} (n : H p = none) (a : Same H H1) (b : But p H1 H2) : Same H H2 := fun c o h => b c o (ne_of_none h n) (a c o h)
/-- two ways of a value meet -/
theorem ifE {ta tb : TE} {σ : L2.St} {H : Hp} {Q : VK} {b : Bool} (R : V → Hp → Prop) (h : ∀ v H', R v H' → Q v H') (h1 : b = true → ∀ Q' : VK, (∀ v H', R v H' → Q' v H') → ta σ H Q') (h2 : b = false → ∀ Q' : VK, (∀ v H', R v H' → Q' v H') → tb σ H Q') :
    if b = true then ta σ H Q else tb σ H Q := by
  cases b with
  | true => exact iteT (h1 rfl Q h)
  | false => exact iteF (h2 rfl Q h)
theorem mulx {i j : Int} (a b : Nat) (ha : i.natAbs < 2 ^ a) (hb : j.natAbs < 2 ^ b) (h : a + b ≤ 134217728 := by decide) : CMulX i j := mulx_ok ha hb h
end Toy
namespace Toy
open PySem PySem.Spec PyProof.Rows L2
theorem qi {Q : VK} {H : Hp} {a b : Int} (q : Q (.int a) H) (e : a = b) : Q (.int b) H := e ▸ q
end Toy
namespace Toy
open PySem PySem.Spec PyProof.Rows L2
/-- the written part by its letter -/
theorem kk {α : Sort _} {P : α → Prop} {F : PySem.W.Frag → α} {K0 K : PySem.W.Frag} (h : P (F K0)) (e : K0 = K := by rfl) : P (F K) := e ▸ h
def rLen (K : PySem.W.Frag) : List V → Hp → VK → Prop := fun xs H Q => ∃ p ys, xs = [.ref p] ∧ (SqL K H p ys ∨ SqT K H p ys) ∧ Q (.int ys.length) H
theorem lenK {X : Cx} {K : PySem.W.Frag} (e : X.K = K := by rfl) : CallR X (.builtin "len") (rLen K) := by cases e; exact call_len_seq
def rLstOf (K : PySem.W.Frag) : List V → Hp → VK → Prop := fun xs H Q => ∃ p ys, xs = [.ref p] ∧ (SqL K H p ys ∨ SqT K H p ys) ∧ ∀ l, H l = none → Q (.ref l) (upd H l (.lst ys))
theorem lstOfK {X : Cx} {K : PySem.W.Frag} (e : X.K = K := by rfl) : CallR X (.type "list") (rLstOf K) := by cases e; exact call_list_of
def rTupOf (K : PySem.W.Frag) : List V → Hp → VK → Prop := fun xs H Q => ∃ p ys, xs = [.ref p] ∧ ((SqL K H p ys ∧ ∀ l, H l = none → Q (.ref l) (upd H l (.tup ys))) ∨ (SqT K H p ys ∧ Q (.ref p) H))
theorem tupOfK {X : Cx} {K : PySem.W.Frag} (e : X.K = K := by rfl) : CallR X (.type "tuple") (rTupOf K) := by cases e; exact call_tuple_of
theorem dec_ne {α : Type} [DecidableEq α] {a b : α} (h : a = b) : (!decide (a = b)) = false := by rw [decide_eq_true h] <;> rfl
end Toy
namespace Toy
open PySem PySem.Spec PyProof.Rows L2
/-- a tuple of the written part; a tuple that never changes -/
def KTup (K : PySem.W.Frag) (a : Addr) (xs : List V) : Prop := ∃ (o : Obj) (its : Array Value) (n : Nat), K.lookup a = some o ∧ o.cls = .type "tuple" ∧ o.data = .seq its n ∧ its.size ≤ sizeLine ∧ Vals xs its.toList
def TupAt (K : PySem.W.Frag) (H : Hp) (a : Addr) (xs : List V) : Prop := H a = some (.tup xs) ∨ KTup K a xs
theorem TupAt.sq {K : PySem.W.Frag} {H : Hp} {a : Addr} {xs : List V} (h : TupAt K H a xs) : SqT K H a xs := by
  rcases h with h | h
  · exact SqT.of h
  · exact .inr h
theorem TupAt.ty {K : PySem.W.Frag} {H : Hp} {a : Addr} {xs : List V} (h : TupAt K H a xs) : TyX K H (.ref a) (.type "tuple") := by
  rcases h with h | ⟨o, its, n, h1, h2, _⟩
  · exact .base (.tup h)
  · exact .kTuple h1 h2
theorem TupAt.same {K : PySem.W.Frag} {H H' : Hp} {a : Addr} {xs : List V} (e : Same H H') (h : TupAt K H a xs) : TupAt K H' a xs := h.imp (e _ _) id
theorem TupAt.but {K : PySem.W.Frag} {H H' : Hp} {a p : Addr} {xs ys : List V} (e : But p H H') (hp : H p = some (.lst ys)) (h : TupAt K H a xs) : TupAt K H' a xs := h.imp (fun h => e _ _ (ne_of h hp (by intro z; cases z)) h) id
end Toy
namespace Toy
open PySem PySem.Spec PyProof.Rows L2
theorem ints_dp {K : PySem.W.Frag} {H : Hp} : ∀ ns : List Int, DpAll K H (ns.map V.int) (ns.map PyData.int)
  | [] => .nil
  | n :: r => .cons (.int n) (ints_dp r)
theorem ints_sh (ns : List Int) : SeqAt.shaped (.list (ns.map PyData.int)) = true := PySem.W.ke_shaped_ints ns
theorem ints_refl (ns : List Int) : PyData.eqv (.list (ns.map PyData.int)) (.list (ns.map PyData.int)) = true := SeqAt.eqv_refl _ (SeqAt.canLay_of_shaped (ints_sh ns))
theorem lst_dp {K : PySem.W.Frag} {H : Hp} {a : Addr} {ns : List Int} (h : SqL K H a (ns.map V.int)) : Dp K H (.ref a) (.list (ns.map PyData.int)) := .lst h (ints_dp ns)
theorem tupI_dp {K : PySem.W.Frag} {H : Hp} {a : Addr} {ns : List Int} (h : SqT K H a (ns.map V.int)) : Dp K H (.ref a) (.tuple (ns.map PyData.int)) := .tup h (ints_dp ns)
theorem tupI_sh (ns : List Int) : SeqAt.shaped (.tuple (ns.map PyData.int)) = true := ints_sh ns
theorem tupI_refl (ns : List Int) : PyData.eqv (.tuple (ns.map PyData.int)) (.tuple (ns.map PyData.int)) = true := SeqAt.eqv_refl _ (SeqAt.canLay_of_shaped (tupI_sh ns))
theorem cut_map (us : List Int) (lo hi : Option Int) : ∃ ws : List Int, cutV (us.map V.int) lo hi = ws.map V.int ∧ ws.length ≤ us.length ∧ ∀ x ∈ ws, x ∈ us := by
  refine ⟨(us.drop (HT.sIx (us.map V.int).length 0 lo)).take (HT.sIx (us.map V.int).length (us.map V.int).length hi - HT.sIx (us.map V.int).length 0 lo), ?_, ?_, fun x hx => List.mem_of_mem_drop (List.mem_of_mem_take hx)⟩
  · unfold cutV; rw [List.map_take, List.map_drop]
  · rw [List.length_take, List.length_drop]; omega
theorem at_map {us : List Int} {i : Nat} {y : V} (h : (us.map V.int)[i]? = some y) : ∃ x : Int, y = .int x ∧ us[i]? = some x := by
  rw [List.getElem?_map] at h
  cases e : us[i]? with
  | none => rw [e] at h; cases h
  | some x => rw [e] at h; exact ⟨x, (Option.some.inj h).symm, rfl⟩
end Toy
namespace Toy
open PySem PySem.Spec PyProof.Rows L2
/-- the heap in which the script alone stands, unless the text's own part holds it -/
def scriptH (K : PySem.W.Frag) (a : Addr) (o : Obj) (ns : List Int) : Hp := fun c => if (K.lookup a).isNone = true ∧ c = a then some (.frz o (.lst (ns.map V.int))) else none
theorem scriptH_none {K : PySem.W.Frag} {a b : Addr} {o : Obj} {ns : List Int} : scriptH K a o ns b = none ∨ (b = a ∧ K.lookup a = none ∧ scriptH K a o ns b = some (.frz o (.lst (ns.map V.int)))) := by
  unfold scriptH
  by_cases c : (K.lookup a).isNone = true ∧ b = a
  · exact .inr ⟨c.2, Option.isNone_iff_eq_none.mp c.1, if_pos c⟩
  · exact .inl (if_neg c)
theorem law_G {P : Program} {w : World} {K : PySem.W.Frag} {mg mb : Str → Option Value} {k : Nat} {fa a : Addr} {fd : FuncData} {x : Str} {sp : Sp} {s : Shared} {vs : List Value} {ns : List Int}
    (KX : K.In s.heap) (hns : s.heap.Ns mainGlobals mg) (hb : s.heap.Ns builtinsNs mb) (hbb : ∀ x : Str, x ≠ "__name__" → mb x = bootBuiltins x) (hlim : s.heap.NoLimit) (hg : s.gens = #[])
    (ha : s.heap.get? a = some { cls := .type "list", data := .seq vs.toArray }) (hi : IntsAre vs ns) (hl : ns.length ≤ sizeLine) (hr : Room k PySem.callerA)
    (F : ∀ base : Heap, K.In base → base.Ns mainGlobals mg → FnG P w K mg base CX0 k fa fd [x] sp) (hbind : ∀ (s : Shared) (u : Value), BindsTo s fd ⟨[u], []⟩ [(x, u)])
    (hsp : ∀ H : Hp, SqL K H a (ns.map V.int) → sp [.ref a] H (fun v _ => v = .bl true) fun _ _ _ => False) :
    codeAny (model P w) PySem.callerA (.call (.ref fa) ⟨[.ref a], []⟩) (fun r s' => r = .ok (.ret (.bool true)) ∧ OldK s.heap s'.heap ∧ s'.os = s.os ∧ AllBare s'.gens) s := by
  let H : Hp := scriptH K a { cls := .type "list", data := .seq vs.toArray } ns
  have hH : ∀ b, H b = none ∨ (b = a ∧ K.lookup a = none ∧ H b = some (.frz { cls := .type "list", data := .seq vs.toArray } (.lst (ns.map V.int)))) := fun b => scriptH_none
  have rv := vals_ints hi
  have hok : HOk P w H s.heap := by
    intro b u e
    rcases hH b with z | ⟨rfl, _, z⟩
    · rw [z] at e; cases e
    · rw [z] at e
      cases e
      exact ⟨ha, by rw [List.length_map]; exact hl, vs, _, rv, ha⟩
  have hS : SqL K H a (ns.map V.int) := by
    cases q : K.lookup a with
    | none => exact .inl (.inr ⟨_, show scriptH K a _ ns a = _ from if_pos ⟨by rw [q] <;> rfl, rfl⟩⟩)
    | some o =>
      have e := KX a o q
      rw [ha] at e
      cases e
      exact .inr ⟨_, vs.toArray, _, q, rfl, rfl, rfl, by rw [List.size_toArray, hi.length]; exact hl, by simpa using rv⟩
  -- what is no list is not the script
  have notA : ∀ {b : Addr} {o : Obj} {es : Array DictEntry} {ep : Nat}, s.heap.get? b = some o → o.data = .dict es ep → H b = none := by
    intro b o es ep e d
    rcases hH b with z | ⟨rfl, _, _⟩
    · exact z
    · rw [ha] at e
      cases e
      cases (show Data.seq vs.toArray _ = Data.dict es ep from d)
  have ns' : ∀ {b : Addr} {m : Str → Option Value}, s.heap.Ns b m → (hidT s.heap H).Ns b m := by
    rintro b m ⟨o, es, ep, e, d, r⟩
    exact ⟨o, es, ep, hidT_get e (notA e d), d, r⟩
  have kin' : K.In (hidT s.heap H) := by
    intro b o e
    refine hidT_get (KX b o e) ?_
    rcases hH b with z | ⟨rfl, q, _⟩
    · exact z
    · rw [q] at e; cases e
  have md : Mod K mg (hidT s.heap H) := ⟨kin', ns' hns, ⟨mb, ns' hb, hbb⟩, hlim.imp fun _ z => ⟨ns' z.1, z.2⟩⟩
  have e0 : Env0 P w K mg (hidT s.heap H) PySem.callerA [] s H := ⟨rfl, md, fun _ _ z => of_hidT z, Nat.le_of_eq (hidT_size _ _), trivial, (by intro b z; cases z), hok, .of_eq hg⟩
  refine codeAny_mono ((F _ kin' (ns' hns)).go (us := [.ref a]) (vs := [.ref a]) ⟨hr, rfl⟩ e0 (hbind s (.ref a)) (.cons rfl .nil) (hsp H hS)) ?_
  rintro (e | fl) s' q
  · exact q.elim
  match fl, q with
  | .ret u, ⟨v, H', os, bare, un, ok', r', q⟩ =>
    have q' : v = .bl true := q
    subst q'
    obtain rfl : u = Value.bool true := r'
    refine ⟨rfl, OldK.of_keep fun b o e => ?_, os, bare⟩
    rcases hH b with z | ⟨_, _, z⟩
    · exact un.keep b o e z (by intro y; cases y) (by intro y; cases y)
    · have z1 := (hok b _ z).1
      have z2 := (ok' b _ (un.frzs b _ _ z)).1
      rw [e] at z1
      cases z1
      exact z2
theorem walk_G {l : PySem.W.OpenLaw} {n k : Nat} {q : Program} {loose : List Str} {XP : (Str → Option Value) → Heap → Prop} {YP : World → Heap → Prop} {d : DefRec} {K : Params → PySem.W.Frag} {sp : PySem.W.Frag → Sp} {x : Str}
    (hn : l.most = some n) (hn2 : n ≤ sizeLine) (hdf : d.params.defaults = []) (hr : Room k PySem.callerA) (hY : ∀ (w : World) (h : Heap), YP w h → (K w.params).In h)
    (F : ∀ (w : World) (mg : Str → Option Value) (fa : Addr) (h : Heap), (K w.params).In h → h.Ns mainGlobals mg → mg d.name = some (.ref fa) →
      ∃ fd : FuncData, (∀ (s : Shared) (u : Value), BindsTo s fd ⟨[u], []⟩ [(x, u)]) ∧ ∀ base : Heap, (K w.params).In base → base.Ns mainGlobals mg → FnG l.prog w (K w.params) mg base CX0 k fa fd [x] (sp (K w.params)))
    (hsp : ∀ (K : PySem.W.Frag) (H : Hp) (a : Addr) (ns : List Int), ns.length ≤ n → SqL K H a (ns.map V.int) → sp K [.ref a] H (fun v _ => v = .bl true) fun _ _ _ => False) :
    PySem.W.WalkO q loose XP YP l.row.toRowW d [] (fun f vs => PySem.call f vs) :=
  Att.attach_call hn hdf fun w s0 s1 mg mb fa o pm cd doc a vs ns G Y ho hd hcd hmg hobj hints hlen hg => by
    have KX := hY w _ Y
    obtain ⟨fd, hbd, hF⟩ := F w mg fa _ KX G.T.g hmg
    exact law_G KX G.T.g G.T.b G.T.builtins G.T.nolimit hg hobj hints (Nat.le_trans hlen hn2) hr hF hbd fun H hS => hsp _ H a ns hlen hS
end Toy
namespace Toy
open PySem PySem.Spec PyProof.Rows L2
/-! ### how long a shown datum is -/
mutual
def cst : PyData → Nat
  | .none => 5
  | .bool _ => 5
  | .int _ => 1921
  | .str x => (reprText x).length
  | .list xs => csts xs + 4
  | .tuple xs => csts xs + 4
  | .dict _ => 0
def csts : List PyData → Nat
  | [] => 0
  | x :: xs => cst x + 4 + csts xs
end
theorem tupT_len (ts : List Str) : (tupleText ts).length ≤ piled ts + 4 := by
  unfold tupleText
  rw [strLen_append, strLen_append]
  have e1 : ((("(" : String) : Str)).length = 1 := rfl
  have e3 : (((if ts.length == 1 then ",)" else ")" : String) : Str)).length ≤ 2 := by split <;> decide +kernel
  by_cases h : ts = []
  · subst h; decide +kernel
  · have := join_length_add ts h; omega
theorem txtFrom_len : ∀ (ts : List Str) (k : Nat) (acc : Str), (textFrom k acc ts).length ≤ acc.length + piled ts
  | [], k, acc => Nat.le_add_right _ _
  | t :: r, k, acc => by
    have h := txtFrom_len r (k + 1) (acc ++ (if k > 0 then ", " else "" : String) ++ t)
    have e : (acc ++ (if k > 0 then ", " else "" : String) ++ t).length = acc.length + (if k > 0 then 2 else 0) + t.length := by
      rw [strLen_append, strLen_append]
      split <;> rfl
    rw [e] at h
    rw [piled_cons]
    have h2 : (textFrom k acc (t :: r)).length = (textFrom (k + 1) (acc ++ (if k > 0 then ", " else "" : String) ++ t) r).length := rfl
    rw [h2]
    have e2 : (if k > 0 then 2 else 0) ≤ 2 := by split <;> omega
    omega
theorem lstT_len (ts : List Str) : (listText ts).length ≤ piled ts + 4 := by
  unfold listText
  rw [strLen_append]
  have h := txtFrom_len ts 0 "["
  have e1 : ((("[" : String) : Str)).length = 1 := rfl
  have e2 : ((("]" : String) : Str)).length = 1 := rfl
  omega
mutual
theorem shown_le : ∀ d : PyData, d.showable = true → d.hasDict = false → d.shown.length ≤ cst d
  | .none, _, _ => by show (("None" : String) : Str).length ≤ 5; decide +kernel
  | .bool b, _, _ => by cases b <;> (show _ ≤ 5; decide +kernel)
  | .int i, h, _ => PyProof.Rows.int_text_len_1921 (of_decide_eq_true (by simpa [PyData.showable] using h))
  | .str x, _, _ => Nat.le_refl _
  | .list ds, h, g => by
    have h1 := showns_le ds (by simpa [PyData.showable] using h) (by simpa [PyData.hasDict] using g)
    have h2 := lstT_len (PyData.shownAll ds)
    show (listText (PyData.shownAll ds)).length ≤ csts ds + 4
    omega
  | .tuple ds, h, g => by
    have h1 := showns_le ds (by simpa [PyData.showable] using h) (by simpa [PyData.hasDict] using g)
    have h2 := tupT_len (PyData.shownAll ds)
    show (tupleText (PyData.shownAll ds)).length ≤ csts ds + 4
    omega
  | .dict _, _, g => by simp [PyData.hasDict] at g
theorem showns_le : ∀ ds : List PyData, PyData.showableAll ds = true → PyData.hasDictAll ds = false → piled (PyData.shownAll ds) ≤ csts ds
  | [], _, _ => Nat.le_refl _
  | d :: ds, h, g => by
    have h1 := shown_le d (by simp [PyData.showableAll] at h; exact h.1) (by simp [PyData.hasDictAll] at g; exact g.1)
    have h2 := showns_le ds (by simp [PyData.showableAll] at h; exact h.2) (by simp [PyData.hasDictAll] at g; exact g.2)
    show piled (d.shown :: PyData.shownAll ds) ≤ _
    rw [piled_cons]
    show _ ≤ cst d + 4 + csts ds
    omega
end
theorem shown_sz {d : PyData} (h : d.showable = true) (g : d.hasDict = false) (c : cst d ≤ 10000000) : d.shown.length ≤ sizeLine :=
  Nat.le_trans (shown_le d h g) (Nat.le_trans c (by decide))
end Toy
namespace Toy
open PySem PySem.Spec PyProof.Rows L2
/-- a list of ints grown by a part of another one -/
theorem ext_cut {L z : Addr} {ws es : List Int} {lo hi : Option Int} {H : Hp} {R : VK} (hL : H L = some (.lst (ws.map V.int))) (hz : H z = some (.lst (cutV (es.map V.int) lo hi))) (hs : ws.length + es.length ≤ 1000)
    (q : ∀ us : List Int, us.length ≤ es.length → (∀ x ∈ us, x ∈ es) → R .non (upd H L (.lst ((ws ++ us).map V.int)))) : rExtend (.ref L) [.ref z] H R := by
  obtain ⟨us, e, h1, h2⟩ := cut_map es lo hi
  rw [e] at hz
  refine ⟨L, z, _, _, rfl, rfl, hL, hz, small (by rw [List.length_map, List.length_map]; omega), ?_⟩
  have := q us h1 h2
  rw [List.map_append] at this
  exact this
theorem rep_len {n : Nat} : ((List.replicate n true).map V.bl).length = n := by rw [List.length_map, List.length_replicate]
theorem rep_snoc {n : Nat} : (List.replicate n true).map V.bl ++ [V.bl true] = (List.replicate (n + 1) true).map V.bl := by rw [List.replicate_succ', List.map_append] <;> rfl
theorem rep_all (n : Nat) : (List.replicate n true).all id = true := by rw [List.all_eq_true]; intro x hx; rw [List.mem_replicate] at hx; exact hx.2
theorem ixn {n j : Nat} (hj : j < n) : ixN n (j : Int) = some j := by
  unfold ixN
  rw [if_pos (by omega), if_pos (by omega)]
  exact congrArg some (Int.toNat_natCast j)
theorem dec_self (a : V) : decide (a = a) = true := decide_eq_true rfl
end Toy
namespace Toy
open PySem PySem.Spec PyProof.Rows L2
/-- a comprehension within a comprehension -/
theorem relabel_kept {env : Env} : ∀ {names : List (Str × NameKind)} {x : Str}, names.lookup x = some .cell ∨ names.lookup x = some .free →
    (names.map fun (n, k) => if (k == NameKind.free && env.scope.kind == .function && env.kindOf n == some .cell) then (n, NameKind.cell) else (n, k)).lookup x = some .cell ∨
    (names.map fun (n, k) => if (k == NameKind.free && env.scope.kind == .function && env.kindOf n == some .cell) then (n, NameKind.cell) else (n, k)).lookup x = some .free
  | [], _, h => by simp at h
  | (n, k) :: r, x, h => by
    have ih := @relabel_kept env r x
    show List.lookup x ((if (k == NameKind.free && env.scope.kind == .function && env.kindOf n == some .cell) = true then (n, NameKind.cell) else (n, k)) :: _) = _ ∨ List.lookup x ((if (k == NameKind.free && env.scope.kind == .function && env.kindOf n == some .cell) = true then (n, NameKind.cell) else (n, k)) :: _) = _
    cases hx : x == n with
    | true =>
      simp only [List.lookup_cons, hx] at h
      by_cases hc : (k == NameKind.free && env.scope.kind == .function && env.kindOf n == some .cell) = true
      · rw [if_pos hc]; exact .inl (by simp [List.lookup_cons, hx])
      · rw [if_neg hc]; simp only [List.lookup_cons, hx]; exact h
    | false =>
      simp only [List.lookup_cons, hx] at h
      by_cases hc : (k == NameKind.free && env.scope.kind == .function && env.kindOf n == some .cell) = true
      · rw [if_pos hc]; simp only [List.lookup_cons, hx]; exact ih h
      · rw [if_neg hc]; simp only [List.lookup_cons, hx]; exact ih h
theorem blkOk_nest {X : Cx} {s : Shared} {H : Hp} {scope1 scope : Scope} {cl : List (Str × Addr)} {C : Addr} {env : Env} {fp : List Addr} {own : List (Str × Nat)} {N : List Str} (hN : X.N = N) (h : blkC N scope1 scope own = true) :
    BlkOk (X.blk s H scope1 (compEnvC scope1 cl C env) fp).N (X.blk s H scope1 (compEnvC scope1 cl C env) fp).env.scope scope own := by
  subst hN
  obtain ⟨h1, h2, h3, h4, h5⟩ := blkOk_by h
  exact ⟨h1, h2, h3, fun y hy e => relabel_kept (h4 y hy e), h5⟩
end Toy
namespace Toy
open PySem PySem.Spec PyProof.Rows L2
/-! ### own classes -/
/-- where a name's class stands -/
def cAt (mg : Str → Option Value) (x : Str) : Addr := match mg x with | some (.ref C) => C | _ => 0
theorem cAt_eq {mg : Str → Option Value} {x : Str} {C : Addr} (h : mg x = some (.ref C)) : cAt mg x = C := by unfold cAt; rw [h]
structure ClsF (K : PySem.W.Frag) (mg : Str → Option Value) (x : Str) (fs : List Str) : Prop where
  mg_ : mg x = some (.ref (cAt mg x))
  cl : Cls K (cAt mg x)
  no : ∀ f ∈ fs, NoAttr K (cAt mg x) f
theorem ClsF.of {K : PySem.W.Frag} {mg : Str → Option Value} {x : Str} {C : Addr} {fs : List Str} (m : mg x = some (.ref C)) (c : Cls K C) (n : ∀ f ∈ fs, NoAttr K C f) : ClsF K mg x fs := by
  have e := cAt_eq m
  exact ⟨by rw [e]; exact m, by rw [e]; exact c, by rw [e]; exact n⟩
/-- a method, by its class -/
structure DfM (K : PySem.W.Frag) (C : Addr) (m q : Str) (st : Stmt) (ps : List Str) : Prop where
  ex : ∃ f fd, Fun K m q st f fd ∧ Meth K C m f ∧ Binds K fd ps []
theorem DfM.of {K : PySem.W.Frag} {mg : Str → Option Value} {x m q : Str} {st : Stmt} {ps : List Str} {f C : Addr} {oc : Value} {od an : Option Addr} {osl : Array (Option Value)} {kV doc pm cdv ct : Value} (hC : mg x = some (.ref C))
    (a : PySem.W.findIn K (.ref C) m = some (some (.ref f))) (i : PySem.W.isFn K (.ref f) = true)
    (l : K.lookup f = some ⟨oc, od, .func (PySem.W.fnOf m q (defArgs st) (defBody st) (defScope st) .none kV doc pm an cdv ct), osl⟩) (c : PySem.W.codeIn K cdv q = true) (k : PySem.W.keepIn K (.ref f) = true)
    (h : ∀ (kV doc pm : Value) (an : Option Addr) (cdv ct : Value) (us : List Value), us.length = ps.length → bindArgs (PySem.W.fnOf m q (defArgs st) (defBody st) (defScope st) .none kV doc pm an cdv ct) ⟨us, []⟩ = pure (ps.zip us)) : DfM K (cAt mg x) m q st ps := by
  rw [cAt_eq hC]
  exact ⟨_, _, fun_mk l c k, ⟨a, i, k⟩, (fun_mk l c k).binds h⟩
structure DnM (P : Program) (w : World) (K : PySem.W.Frag) (mg : Str → Option Value) (base : Heap) (C : Addr) (k : Nat) (m : Str) (ps : List Str) (sp : Sp) : Prop where
  ex : ∃ f fd, FnG P w K mg base CX0 k f fd ps sp ∧ Meth K C m f ∧ Binds K fd ps []
theorem DfM.ok {P : Program} {w : World} {K : PySem.W.Frag} {mg : Str → Option Value} {base : Heap} {C : Addr} {m q : Str} {st : Stmt} {ps : List Str} {k : Nat} {sp : Sp} (D : DfM K C m q st ps)
    (h : ∀ f fd, Fun K m q st f fd → FnG P w K mg base CX0 k f fd ps sp) : DnM P w K mg base C k m ps sp := by
  obtain ⟨f, fd, F, mt, b⟩ := D.ex
  exact ⟨f, fd, h f fd F, mt, b⟩
/-- the maker of a class -/
structure DfI (K : PySem.W.Frag) (C : Addr) (q : Str) (st : Stmt) (ps : List Str) : Prop where
  ex : ∃ f fd, Fun K "__init__" q st f fd ∧ Mk K C f ∧ Binds K fd ps []
theorem DfI.of {K : PySem.W.Frag} {mg : Str → Option Value} {x q : Str} {st : Stmt} {ps : List Str} {f C : Addr} {oc : Value} {od an : Option Addr} {osl : Array (Option Value)} {kV doc pm cdv ct : Value} (hC : mg x = some (.ref C))
    (a : PySem.W.findIn K (.ref C) "__init__" = some (some (.ref f))) (i : PySem.W.isFn K (.ref f) = true)
    (l : K.lookup f = some ⟨oc, od, .func (PySem.W.fnOf "__init__" q (defArgs st) (defBody st) (defScope st) .none kV doc pm an cdv ct), osl⟩) (c : PySem.W.codeIn K cdv q = true) (k : PySem.W.keepIn K (.ref f) = true)
    (mk : PySem.W.makesIn K C = true) (kc : PySem.W.keepIn K (.ref C) = true)
    (h : ∀ (kV doc pm : Value) (an : Option Addr) (cdv ct : Value) (us : List Value), us.length = ps.length → bindArgs (PySem.W.fnOf "__init__" q (defArgs st) (defBody st) (defScope st) .none kV doc pm an cdv ct) ⟨us, []⟩ = pure (ps.zip us)) : DfI K (cAt mg x) q st ps := by
  rw [cAt_eq hC]
  exact ⟨_, _, fun_mk l c k, ⟨mk, a, i, kc⟩, (fun_mk l c k).binds h⟩
structure DnI (P : Program) (w : World) (K : PySem.W.Frag) (mg : Str → Option Value) (base : Heap) (C : Addr) (k : Nat) (ps : List Str) (sp : Sp) : Prop where
  ex : ∃ f fd, FnG P w K mg base CX0 k f fd ps sp ∧ Mk K C f ∧ Binds K fd ps []
theorem DfI.ok {P : Program} {w : World} {K : PySem.W.Frag} {mg : Str → Option Value} {base : Heap} {C : Addr} {q : Str} {st : Stmt} {ps : List Str} {k : Nat} {sp : Sp} (D : DfI K C q st ps)
    (h : ∀ f fd, Fun K "__init__" q st f fd → FnG P w K mg base CX0 k f fd ps sp) : DnI P w K mg base C k ps sp := by
  obtain ⟨f, fd, F, mt, b⟩ := D.ex
  exact ⟨f, fd, h f fd F, mt, b⟩
theorem RoomG.make {k : Nat} {A : Around} (r : RoomG (k + 1) A) (C : Addr) (us : List Value) (kw : List (Str × Value)) : RoomG k (A.under (.builtin "type.__call__" ⟨.ref C :: us, kw⟩)) :=
  ⟨r.room.make C us kw, r.idle⟩
section
variable {X : Cx} {k : Nat} {C : Addr} {ps : List Str} {sp : Sp} {x m : Str} {p pos apos : Pos} {e o : Expr} {es : List Expr} {ta : TE} {t : TA}
theorem pe_mG {pl : Sem Bool} (D : DnM X.prog X.w X.K X.mg X.base C k m ps sp) (c : Cls X.K C) (hr : RoomG k X.A) (he : PE X o ta) (ha : PA X (e :: es) t)
    (hst : starEach (e :: es) X.env = (false, eval e X.env) :: starEach es X.env := by rfl) (hpl : (backTo pos (starEach es X.env)).any (·.1) = false := by rfl)
    (ht : eval (.Call (.Attribute o m apos) (e :: es) [] pos) X.env = (do
      let ov ← eval o X.env
      standAt apos.atName
      let (f, first) ← holding [ov] (getMethod ov m pl)
      callWith pos f first (backTo pos (starEach (e :: es) X.env)) (backToKw pos (keywordEach [] X.env))) := by rfl) :
    PE X (.Call (.Attribute o m apos) (e :: es) [] pos) (tMeth C m sp [] E0 ta t) := by
  obtain ⟨f, fd, F, hm, hb⟩ := D.ex
  refine ⟨fun pins s σ H Q I h => ?_⟩
  refine PySem.W.methodCall_KW (pl := pl) (thn (he.run pins s σ H _ I h) fun u s1 ⟨x, H1, I1, rx, a, dx, fs, ex, ea, l, q⟩ => ?_) ht
  subst ex
  obtain rfl : u = Value.ref a := rx
  refine getmeth_ok I1 ea c hm l ?_
  refine PySem.W.callWith_K (first := [.ref a]) (h₀ := X.base) I.ok.mod.kin hm.kp (thn (ha.run pos pins s1 σ H1 _ I1 q) fun us s2 ⟨vs, H2, I2, r, q2⟩ => ⟨I2.kIn, ?_⟩) hst hpl
  have q' : sp (.ref a :: vs) H2 Q E0 := by
    have z : sp (.ref a :: (vs ++ [])) H2 Q E0 := q2
    rw [List.append_nil] at z
    exact z
  exact run_G (us := .ref a :: us) (vs := .ref a :: vs) F hr hb (fun _ _ z => z.elim) I2 (.cons rfl r) q'
theorem pe_mG0 {pl : Sem Bool} (D : DnM X.prog X.w X.K X.mg X.base C k m ps sp) (c : Cls X.K C) (hr : RoomG k X.A) (he : PE X o ta)
    (ht : eval (.Call (.Attribute o m apos) [] [] pos) X.env = (do
      let ov ← eval o X.env
      standAt apos.atName
      let (f, first) ← holding [ov] (getMethod ov m pl)
      callWith pos f first (backTo pos (starEach [] X.env)) (backToKw pos (keywordEach [] X.env))) := by rfl) :
    PE X (.Call (.Attribute o m apos) [] [] pos) (tMeth C m sp [] E0 ta tNil) := by
  obtain ⟨f, fd, F, hm, hb⟩ := D.ex
  refine ⟨fun pins s σ H Q I h => ?_⟩
  refine PySem.W.methodCall_KW (pl := pl) (thn (he.run pins s σ H _ I h) fun u s1 ⟨x, H1, I1, rx, a, dx, fs, ex, ea, l, q⟩ => ?_) ht
  subst ex
  obtain rfl : u = Value.ref a := rx
  refine getmeth_ok I1 ea c hm l ?_
  exact PySem.W.callWith_K0 (first := [.ref a]) I1.kIn hm.kp (run_G (us := [.ref a]) (vs := [.ref a]) F hr hb (fun _ _ z => z.elim) I1 (.cons rfl .nil) q)
theorem run_mkG {pins : List (Addr × Obj)} {σ : L2.St} {H : Hp} {s : Shared} {Q : VK} {us : List Value} {vs : List V} {f : Addr} {fd : FuncData} (M : Mk X.K C f) (F : FnG X.prog X.w X.K X.mg X.base CX0 k f fd ps sp) (hr : RoomG (k + 1) X.A) (hb : Binds X.K fd ps [])
    (I : Inv X pins σ H s) (r : Vals vs us)
    (h : ∀ x dx, H x = none → H dx = none → dx ≠ x → sp (.ref x :: vs) (upd (upd H dx (.own x)) x (.ins C dx [])) (fun v H2 => v = .non ∧ Q (.ref x) H2) E0) :
    wpAny (model X.prog X.w) X.A (call (.ref C) us) (EP X pins σ Q) X.xe s := by
  have hq := h (s.heap.objs.size + 1) s.heap.objs.size (I.hok.fresh (Nat.le_succ _)) (I.hok.fresh (Nat.le_refl _)) (Nat.ne_of_lt (Nat.lt_succ_self _))
  have I2 := Inv.made (C := C) I
  have r2 : Vals (V.ref (s.heap.objs.size + 1) :: vs) (Value.ref (s.heap.objs.size + 1) :: us) := .cons rfl r
  have hl : (Value.ref (s.heap.objs.size + 1) :: us).length = ps.length := by
    rw [← r2.length]
    exact F.arity _ _ _ _ hq
  have b := hb { s with heap := _ } (Value.ref (s.heap.objs.size + 1) :: us) I2.kIn (by rw [List.append_nil]; exact hl)
  rw [List.append_nil] at b
  refine wpAny_call (make_map (f := f) I.kIn M.makes M.init (beq_iff_eq.mp M.fn) (codeAny_mono (F.go (hr.make C us []) (I2.env0.make C us []) b r2 hq) fun r s' hq' => ?_))
  cases r with
  | error e => exact hq'.elim
  | ok fl =>
    match fl, hq' with
    | .ret u, hq' =>
      obtain ⟨v, H', I3, rv, ev, q3⟩ := I2.after hq'
      subst ev
      exact ⟨rv, ⟨V.ref (s.heap.objs.size + 1), H', I3, rfl, q3⟩⟩
theorem pe_mkG (D : DnI X.prog X.w X.K X.mg X.base C k ps sp) (hr : RoomG (k + 1) X.A) (hg : Gl X x) (hm : X.mg x = some (.ref C)) (ha : PA X (e :: es) t) (hdb : (x == ("__debug__" : Str)) = false := by decide)
    (he : starEach (e :: es) X.env = (false, eval e X.env) :: starEach es X.env := by rfl) (hpl : (backTo pos (starEach es X.env)).any (·.1) = false := by rfl) :
    PE X (.Call (.Name x p) (e :: es) [] pos) (tMake C sp [] E0 t) := by
  obtain ⟨f, fd, F, M, hb⟩ := D.ex
  refine ⟨fun pins s σ H Q I h => ?_⟩
  refine wpAny_Call_Name_kw (ld_glob I hg hm ?_ hdb)
  refine PySem.W.callWith_K (h₀ := X.base) I.ok.mod.kin M.kp (thn (ha.run pos pins s σ H _ I h) fun us s1 ⟨vs, H1, I1, r, q⟩ => ⟨I1.kIn, ?_⟩) he hpl
  exact run_mkG M F hr hb I1 r fun x dx h1 h2 h3 => by
    have z := q x dx h1 h2 h3
    rw [List.append_nil] at z
    exact z
/-- o.f, as a target -/
def gFld (K : PySem.W.Frag) (to : TE) (f : Str) : TG := fun v σ H Q => to σ H fun x H1 => ∃ a C dx fs, x = .ref a ∧ H1 a = some (.ins C dx fs) ∧ Cls K C ∧ NoAttr K C f ∧ fs.length < 1000 ∧ Q σ (upd H1 a (.ins C dx (putF f v fs)))
theorem pg_fld {f : Str} {to : TE} (ho : PE X o to) : PG X (.Attribute o f pos) (gFld X.K to f) := by
  refine ⟨fun pins s σ H v u Q I r h => ?_⟩
  rw [assign_Attribute]
  refine wpAny_bind (wpAny_holding (thn (ho.run pins s σ H _ I h) fun ov s1 ⟨x, H1, I1, rx, a, C, dx, fs, ex, ea, c, n, l, q⟩ => ?_))
  subst ex
  obtain rfl : ov = Value.ref a := rx
  refine wpAny_bind (wpAny_standAt ?_)
  refine wpAny_bind (wpAny_holding (setattr_ok I1 ea c n l r fun s2 I2 => ?_))
  exact wpAny_release ⟨σ, _, I2, q⟩
end
end Toy
namespace Toy
open PySem PySem.Spec PyProof.Rows L2
theorem hp_same {H H' : Hp} {a : Addr} {o : HO} (s : Same H H') (h : H a = some o) : H' a = some o := s _ _ h
theorem hp_at {H H' : Hp} {a : Addr} {o : HO} (h : H a = some o) (s : Same H H') : H' a = some o := s _ _ h
theorem sql_at {K : PySem.W.Frag} {H H' : Hp} {p : Addr} {xs : List V} (h : SqL K H p xs) (s : Same H H') : SqL K H' p xs := s.seq h
theorem sqt_at {K : PySem.W.Frag} {H H' : Hp} {a : Addr} {xs : List V} (h : SqT K H a xs) (s : Same H H') : SqT K H' a xs := same_tup s h
theorem same_bk {H M H' : Hp} (b : Same M H') (a : Same H M) : Same H H' := a.trans b
theorem hp_new {H : Hp} {l a : Addr} {o u : HO} (n : H l = none) (h : H a = some o) : upd H l u a = some o := same_new n u _ _ h
theorem s1k : 1000 ≤ sizeLine := by decide
theorem lk1000 {n : Nat} (h : n ≤ 1000) : n ≤ sizeLine := Nat.le_trans h s1k
theorem lt1000 {n : Nat} (h : n < 1000) : n < sizeLine := Nat.lt_of_lt_of_le h s1k
theorem tyL {K : PySem.W.Frag} {H : Hp} {p : Addr} {xs : List V} (h : H p = some (.lst xs)) : tyV K "list" (.ref p) H := .inl ⟨rfl, xs, SqL.of h⟩
theorem sq_same {K : PySem.W.Frag} {H H' : Hp} {p : Addr} {xs : List V} (s : Same H H') (h : SqL K H p xs) : SqL K H' p xs := s.seq h
theorem newS {H H' : Hp} {l : Addr} {o : HO} (e : upd H l o = H') (n : H l = none) : Same H H' := e ▸ same_new n o
theorem newO {H H' : Hp} {l : Addr} {o : HO} (e : upd H l o = H') : H' l = some o := e ▸ upd_same
end Toy
namespace Toy
open PySem PySem.Spec PyProof.Rows L2
/-! ### methods with defaults -/
structure DfMd (K : PySem.W.Frag) (C : Addr) (m q : Str) (st : Stmt) (ps : List Str) (dvs : List V) : Prop where
  ex : ∃ (f : Addr) (fd : FuncData) (ds : List Value), FunA K m q st f fd ∧ Meth K C m f ∧ Binds K fd ps ds ∧ Vals dvs ds
theorem DfMd.of {K : PySem.W.Frag} {mg : Str → Option Value} {x m q : Str} {st : Stmt} {ps : List Str} {dvs : List V} {f C T : Addr} {oc : Value} {od an : Option Addr} {osl : Array (Option Value)} {kV doc pm cdv ct : Value} {o : Obj} {its : List Value} {n mm : Nat} (hC : mg x = some (.ref C))
    (a : PySem.W.findIn K (.ref C) m = some (some (.ref f))) (i : PySem.W.isFn K (.ref f) = true)
    (l : K.lookup f = some ⟨oc, od, .func (PySem.W.fnOf m q (defArgs st) (defBody st) (defScope st) (.ref T) kV doc pm an cdv ct), osl⟩) (c : PySem.W.codeIn K cdv q = true) (k : PySem.W.keepIn K (.ref f) = true)
    (lT : K.lookup T = some o) (oT : o.data = .seq its.toArray mm) (rT : Vals dvs its) (hn : n + dvs.length = ps.length)
    (h : ∀ (us : List Value), us.length = n → ∃ kk, bindArgs (PySem.W.fnOf m q (defArgs st) (defBody st) (defScope st) (.ref T) kV doc pm an cdv ct) ⟨us, []⟩ = seqItems? (.ref T) >>= kk ∧ kk (some its.toArray) = pure (ps.zip (us ++ its))) : DfMd K (cAt mg x) m q st ps dvs := by
  rw [cAt_eq hC]
  refine ⟨f, _, its, ⟨⟨_, _, _, _, _, _, _, _, _, _, rfl, l, c⟩⟩, ⟨a, i, k⟩, fun s us X hlen => ?_, rT⟩
  have l1 := rT.length
  have l2 : us.length = n := by
    rw [List.length_append] at hlen
    omega
  obtain ⟨kk, e1, e2⟩ := h us l2
  refine BindsTo.of_looks fun M => ?_
  rw [e1]
  exact looks_items X lT oT (.of_pure e2)
theorem DfMd.ofAll {K : PySem.W.Frag} {mg : Str → Option Value} {x m q : Str} {st : Stmt} {ps : List Str} {f C T : Addr} {oc : Value} {od an : Option Addr} {osl : Array (Option Value)} {kV doc pm cdv ct : Value} {o : Obj} {its : List Value} {n mm : Nat} (hC : mg x = some (.ref C))
    (a : PySem.W.findIn K (.ref C) m = some (some (.ref f))) (i : PySem.W.isFn K (.ref f) = true)
    (l : K.lookup f = some ⟨oc, od, .func (PySem.W.fnOf m q (defArgs st) (defBody st) (defScope st) (.ref T) kV doc pm an cdv ct), osl⟩) (c : PySem.W.codeIn K cdv q = true) (k : PySem.W.keepIn K (.ref f) = true)
    (lT : K.lookup T = some o) (oT : o.data = .seq its.toArray mm) (hn : n = ps.length)
    (h : ∀ (us : List Value), us.length = n → ∃ kk, bindArgs (PySem.W.fnOf m q (defArgs st) (defBody st) (defScope st) (.ref T) kV doc pm an cdv ct) ⟨us, []⟩ = seqItems? (.ref T) >>= kk ∧ kk (some its.toArray) = pure (ps.zip us)) : DfMd K (cAt mg x) m q st ps [] := by
  rw [cAt_eq hC]
  refine ⟨f, _, [], ⟨⟨_, _, _, _, _, _, _, _, _, _, rfl, l, c⟩⟩, ⟨a, i, k⟩, fun s us X hlen => ?_, .nil⟩
  have l2 : us.length = n := by
    rw [List.append_nil] at hlen
    omega
  obtain ⟨kk, e1, e2⟩ := h us l2
  refine BindsTo.of_looks fun M => ?_
  rw [e1, List.append_nil]
  exact looks_items X lT oT (.of_pure e2)
structure DnMd (P : Program) (w : World) (K : PySem.W.Frag) (mg : Str → Option Value) (base : Heap) (C : Addr) (k : Nat) (m : Str) (ps : List Str) (dvs : List V) (sp : Sp) : Prop where
  ex : ∃ (f : Addr) (fd : FuncData) (ds : List Value), FnG P w K mg base CX0 k f fd ps sp ∧ Meth K C m f ∧ Binds K fd ps ds ∧ Vals dvs ds
theorem DfMd.ok {P : Program} {w : World} {K : PySem.W.Frag} {mg : Str → Option Value} {base : Heap} {C : Addr} {m q : Str} {st : Stmt} {ps : List Str} {dvs : List V} {k : Nat} {sp : Sp} (D : DfMd K C m q st ps dvs)
    (h : ∀ f fd, FunA K m q st f fd → FnG P w K mg base CX0 k f fd ps sp) : DnMd P w K mg base C k m ps dvs sp := by
  obtain ⟨f, fd, ds, F, mt, b, d⟩ := D.ex
  exact ⟨f, fd, ds, h f fd F, mt, b, d⟩
section
variable {X : Cx} {k : Nat} {C : Addr} {ps : List Str} {dvs : List V} {sp : Sp} {x m : Str} {p pos apos : Pos} {e o : Expr} {es : List Expr} {ta : TE} {t : TA}
theorem pe_mGd {pl : Sem Bool} (D : DnMd X.prog X.w X.K X.mg X.base C k m ps dvs sp) (c : Cls X.K C) (hr : RoomG k X.A) (he : PE X o ta) (ha : PA X (e :: es) t)
    (hst : starEach (e :: es) X.env = (false, eval e X.env) :: starEach es X.env := by rfl) (hpl : (backTo pos (starEach es X.env)).any (·.1) = false := by rfl)
    (ht : eval (.Call (.Attribute o m apos) (e :: es) [] pos) X.env = (do
      let ov ← eval o X.env
      standAt apos.atName
      let (f, first) ← holding [ov] (getMethod ov m pl)
      callWith pos f first (backTo pos (starEach (e :: es) X.env)) (backToKw pos (keywordEach [] X.env))) := by rfl) :
    PE X (.Call (.Attribute o m apos) (e :: es) [] pos) (tMeth C m sp dvs E0 ta t) := by
  obtain ⟨f, fd, ds, F, hm, hb, hd⟩ := D.ex
  refine ⟨fun pins s σ H Q I h => ?_⟩
  refine PySem.W.methodCall_KW (pl := pl) (thn (he.run pins s σ H _ I h) fun u s1 ⟨x, H1, I1, rx, a, dx, fs, ex, ea, l, q⟩ => ?_) ht
  subst ex
  obtain rfl : u = Value.ref a := rx
  refine getmeth_ok I1 ea c hm l ?_
  refine PySem.W.callWith_K (first := [.ref a]) (h₀ := X.base) I.ok.mod.kin hm.kp (thn (ha.run pos pins s1 σ H1 _ I1 q) fun us s2 ⟨vs, H2, I2, r, q2⟩ => ⟨I2.kIn, ?_⟩) hst hpl
  exact run_Gd (us := .ref a :: us) (vs := .ref a :: vs) F hr hb hd (fun _ _ z => z.elim) I2 (.cons rfl r) q2
theorem pe_mGd0 {pl : Sem Bool} (D : DnMd X.prog X.w X.K X.mg X.base C k m ps dvs sp) (c : Cls X.K C) (hr : RoomG k X.A) (he : PE X o ta)
    (ht : eval (.Call (.Attribute o m apos) [] [] pos) X.env = (do
      let ov ← eval o X.env
      standAt apos.atName
      let (f, first) ← holding [ov] (getMethod ov m pl)
      callWith pos f first (backTo pos (starEach [] X.env)) (backToKw pos (keywordEach [] X.env))) := by rfl) :
    PE X (.Call (.Attribute o m apos) [] [] pos) (tMeth C m sp dvs E0 ta tNil) := by
  obtain ⟨f, fd, ds, F, hm, hb, hd⟩ := D.ex
  refine ⟨fun pins s σ H Q I h => ?_⟩
  refine PySem.W.methodCall_KW (pl := pl) (thn (he.run pins s σ H _ I h) fun u s1 ⟨x, H1, I1, rx, a, dx, fs, ex, ea, l, q⟩ => ?_) ht
  subst ex
  obtain rfl : u = Value.ref a := rx
  refine getmeth_ok I1 ea c hm l ?_
  exact PySem.W.callWith_K0 (first := [.ref a]) I1.kIn hm.kp (run_Gd (us := [.ref a]) (vs := [.ref a]) F hr hb hd (fun _ _ z => z.elim) I1 (.cons rfl .nil) q)
end
end Toy
namespace Toy
open PySem L2
def top (i : Nat) : Stmt := PySem.Challenge.pw_joinedasks_k55_room_and_kept.main.body.getD i (.Pass ⟨0, 0, 0, 0⟩)
abbrev s__wall : Stmt := top 0
theorem sc__wall : FnScope ["k"] ["k"] (defScope s__wall) := ⟨rfl, rfl, rfl, by decide +kernel, rfl, by decide +kernel, by decide +kernel⟩
abbrev s_is_whole : Stmt := top 11
theorem sc_is_whole : FnScope ["thing"] ["thing"] (defScope s_is_whole) := ⟨rfl, rfl, rfl, by decide +kernel, rfl, by decide +kernel, by decide +kernel⟩
abbrev s_is_within : Stmt := top 12
theorem sc_is_within : FnScope ["thing", "least", "most"] ["thing", "least", "most"] (defScope s_is_within) := ⟨rfl, rfl, rfl, by decide +kernel, rfl, by decide +kernel, by decide +kernel⟩
abbrev s_is_row : Stmt := top 13
theorem sc_is_row : FnScope ["thing"] ["thing"] (defScope s_is_row) := ⟨rfl, rfl, rfl, by decide +kernel, rfl, by decide +kernel, by decide +kernel⟩
abbrev s_is_row_of : Stmt := top 14
theorem sc_is_row_of : FnScope ["thing", "many"] ["thing", "many"] (defScope s_is_row_of) := ⟨rfl, rfl, rfl, by decide +kernel, rfl, by decide +kernel, by decide +kernel⟩
abbrev s_want_within : Stmt := top 15
theorem sc_want_within : FnScope ["thing", "least", "most"] ["thing", "least", "most"] (defScope s_want_within) := ⟨rfl, rfl, rfl, by decide +kernel, rfl, by decide +kernel, by decide +kernel⟩
abbrev s_want_net : Stmt := top 16
theorem sc_want_net : FnScope ["k", "deepest"] ["k", "deepest"] (defScope s_want_net) := ⟨rfl, rfl, rfl, by decide +kernel, rfl, by decide +kernel, by decide +kernel⟩
abbrev s_is_end : Stmt := top 18
theorem sc_is_end : FnScope ["thing"] ["thing"] (defScope s_is_end) := ⟨rfl, rfl, rfl, by decide +kernel, rfl, by decide +kernel, by decide +kernel⟩
abbrev s_is_deed : Stmt := top 19
theorem sc_is_deed : FnScope ["thing", "add", "low", "high"] ["thing"] (defScope s_is_deed) := ⟨rfl, rfl, rfl, by decide +kernel, rfl, by decide +kernel, by decide +kernel⟩
abbrev s_put_through : Stmt := top 20
theorem sc_put_through : FnScope ["deed", "value", "add", "low", "high", "found"] ["deed", "value"] (defScope s_put_through) := ⟨rfl, rfl, rfl, by decide +kernel, rfl, by decide +kernel, by decide +kernel⟩
abbrev s_whole_deed : Stmt := top 21
theorem sc_whole_deed : FnScope ["add", "low", "high"] ["add", "low", "high"] (defScope s_whole_deed) := ⟨rfl, rfl, rfl, by decide +kernel, rfl, by decide +kernel, by decide +kernel⟩
abbrev s_one_behind : Stmt := top 22
theorem sc_one_behind : FnScope ["one", "other", "low", "high"] ["one", "other"] (defScope s_one_behind) := ⟨rfl, rfl, rfl, by decide +kernel, rfl, by decide +kernel, by decide +kernel⟩
abbrev s_is_board : Stmt := top 26
theorem sc_is_board : FnScope ["thing", "value"] ["thing"] (defScope s_is_board) := ⟨rfl, rfl, rfl, by decide +kernel, rfl, by decide +kernel, by decide +kernel⟩
abbrev s_want_board : Stmt := top 27
theorem sc_want_board : FnScope ["board"] ["board"] (defScope s_want_board) := ⟨rfl, rfl, rfl, by decide +kernel, rfl, by decide +kernel, by decide +kernel⟩
abbrev s_is_ask : Stmt := top 28
theorem sc_is_ask : FnScope ["board", "thing"] ["board", "thing"] (defScope s_is_ask) := ⟨rfl, rfl, rfl, by decide +kernel, rfl, by decide +kernel, by decide +kernel⟩
abbrev s_figure_of : Stmt := top 33
theorem sc_figure_of : FnScope ["k", "line", "stage"] ["k", "line", "stage"] (defScope s_figure_of) := ⟨rfl, rfl, rfl, by decide +kernel, rfl, by decide +kernel, by decide +kernel⟩
abbrev s_line_of : Stmt := top 34
theorem sc_line_of : FnScope ["k", "stage", "number", "figure", "below"] ["k", "stage", "number", "figure"] (defScope s_line_of) := ⟨rfl, rfl, rfl, by decide +kernel, rfl, by decide +kernel, by decide +kernel⟩
abbrev s_side_of_box : Stmt := top 35
theorem sc_side_of_box : FnScope ["k", "box"] ["k", "box"] (defScope s_side_of_box) := ⟨rfl, rfl, rfl, by decide +kernel, rfl, by decide +kernel, by decide +kernel⟩
abbrev s_is_place : Stmt := top 36
theorem sc_is_place : FnScope ["k", "thing", "many"] ["k", "thing"] (defScope s_is_place) := ⟨rfl, rfl, rfl, by decide +kernel, rfl, by decide +kernel, by decide +kernel⟩
abbrev s__law_pot : Stmt := top 39
theorem sc__law_pot : FnScope ["_law_script", "_law_k", "_law_seed", "_law_cell", "_law_number_here"] ["_law_script", "_law_k"] (defScope s__law_pot) := ⟨rfl, rfl, rfl, by decide +kernel, rfl, by decide +kernel, by decide +kernel⟩
abbrev s__law_take : Stmt := top 40
theorem sc__law_take : FnScope ["_law_pot_here", "_law_many", "_law_digit"] ["_law_pot_here", "_law_many"] (defScope s__law_take) := ⟨rfl, rfl, rfl, by decide +kernel, rfl, by decide +kernel, by decide +kernel⟩
abbrev s__law_number : Stmt := top 41
theorem sc__law_number : FnScope ["_law_pot_here", "_law_menu"] ["_law_pot_here"] (defScope s__law_number) := ⟨rfl, rfl, rfl, by decide +kernel, rfl, by decide +kernel, by decide +kernel⟩
abbrev s__law_deed : Stmt := top 42
theorem sc__law_deed : FnScope ["_law_pot_here", "_law_menu", "_law_low", "_law_high", "_law_add"] ["_law_pot_here"] (defScope s__law_deed) := ⟨rfl, rfl, rfl, by decide +kernel, rfl, by decide +kernel, by decide +kernel⟩
abbrev s__law_done : Stmt := top 43
theorem sc__law_done : FnScope ["_law_deed_here", "_law_value", "_law_add", "_law_low", "_law_high", "_law_found"] ["_law_deed_here", "_law_value"] (defScope s__law_done) := ⟨rfl, rfl, rfl, by decide +kernel, rfl, by decide +kernel, by decide +kernel⟩
abbrev s__law_ask : Stmt := top 44
theorem sc__law_ask : FnScope ["_law_pot_here", "_law_k", "_law_many", "_law_some", "_law_box"] ["_law_pot_here", "_law_k", "_law_many", "_law_some"] (defScope s__law_ask) := ⟨rfl, rfl, rfl, by decide +kernel, rfl, by decide +kernel, by decide +kernel⟩
abbrev s__law_lost : Stmt := top 45
theorem sc__law_lost : FnScope ["_law_pot_here", "_law_k", "_law_found", "_law_turn", "_law_stage", "_law_number_here"] ["_law_pot_here", "_law_k"] (defScope s__law_lost) := ⟨rfl, rfl, rfl, by decide +kernel, rfl, by decide +kernel, by decide +kernel⟩
abbrev s__law_values : Stmt := top 46
theorem sc__law_values : FnScope ["_law_asks", "_law_found", "_law_hand", "_law_box", "_law_deed_here", "_law_end"] ["_law_asks"] (defScope s__law_values) := ⟨rfl, rfl, rfl, by decide +kernel, rfl, by decide +kernel, by decide +kernel⟩
abbrev s__law_deed_is : Stmt := top 47
theorem sc__law_deed_is : FnScope ["_law_deed_here", "_law_asks", "_law_value", "_law_due", "_law_hand", "_law_box", "_law_own"] ["_law_deed_here", "_law_asks"] (defScope s__law_deed_is) := ⟨rfl, rfl, rfl, by decide +kernel, rfl, by decide +kernel, by decide +kernel⟩
abbrev s__law_entry : Stmt := top 48
theorem sc__law_entry : FnScope ["_law_k", "_law_level", "_law_line", "_law_one", "_law_asks", "_law_box", "_law_deed_here", "_law_numbers", "_law_some", "_law_rest", "_law_number_here", "_law_ask_here"] ["_law_k", "_law_level", "_law_line", "_law_one", "_law_asks"] (defScope s__law_entry) := ⟨rfl, rfl, rfl, by decide +kernel, rfl, by decide +kernel, by decide +kernel⟩
abbrev s__law_spots : Stmt := top 49
theorem sc__law_spots : FnScope ["_law_first", "_law_k", "_law_many", "_law_found", "_law_level", "_law_line"] ["_law_first", "_law_k", "_law_many"] (defScope s__law_spots) := ⟨rfl, rfl, rfl, by decide +kernel, rfl, by decide +kernel, by decide +kernel⟩
abbrev s__law_as_put : Stmt := top 50
theorem sc__law_as_put : FnScope ["_law_row", "_law_numbers", "_law_one", "_law_some"] ["_law_row"] (defScope s__law_as_put) := ⟨rfl, rfl, rfl, by decide +kernel, rfl, by decide +kernel, by decide +kernel⟩
abbrev s__law_bounds : Stmt := top 51
theorem sc__law_bounds : FnScope ["_law_net", "_law_k", "_law_room", "_law_kept", "_law_asks", "_law_found", "_law_more", "_law_level", "_law_line", "_law_row", "_law_one", "_law_pairs", "_law_stage", "_law_number_here"] ["_law_net", "_law_k", "_law_room", "_law_kept", "_law_asks"] (defScope s__law_bounds) := ⟨rfl, rfl, rfl, by decide +kernel, rfl, by decide +kernel, by decide +kernel⟩
abbrev s_law : Stmt := top 52
theorem sc_law : FnScope ["_law_script", "_law_j", "_law_pot_here", "_law_k", "_law_turns", "_law_many", "_law_room", "_law_kept", "_law_turn", "_law_some", "_law_net", "_law_asks", "_law_lost_here", "_law_ask_here", "_law_box"] ["_law_script"] (defScope s_law) := ⟨rfl, rfl, rfl, by decide +kernel, rfl, by decide +kernel, by decide +kernel⟩
abbrev s_Net____init__ : Stmt := inClass (top 37) 0
theorem sc_Net____init__ : FnScope ["self", "k", "board", "room", "kept", "level", "line"] ["self", "k", "board", "room", "kept"] (defScope s_Net____init__) := ⟨rfl, rfl, rfl, by decide +kernel, rfl, by decide +kernel, by decide +kernel⟩
abbrev s_Net__put : Stmt := inClass (top 37) 2
theorem sc_Net__put : FnScope ["self", "ask", "hand", "box", "deed", "number"] ["self", "ask"] (defScope s_Net__put) := ⟨rfl, rfl, rfl, by decide +kernel, rfl, by decide +kernel, by decide +kernel⟩
abbrev s_Net__beat : Stmt := inClass (top 37) 5
theorem sc_Net__beat : FnScope ["self", "lost", "ends", "some", "number", "end"] ["self", "lost"] (defScope s_Net__beat) := ⟨rfl, rfl, rfl, by decide +kernel, rfl, by decide +kernel, by decide +kernel⟩
abbrev s_Net__log : Stmt := inClass (top 37) 13
theorem sc_Net__log : FnScope ["self"] ["self"] (defScope s_Net__log) := ⟨rfl, rfl, rfl, by decide +kernel, rfl, by decide +kernel, by decide +kernel⟩
abbrev s_Net__waiting : Stmt := inClass (top 37) 17
theorem sc_Net__waiting : FnScope ["self", "level", "line", "k"] ["self", "level", "line"] (defScope s_Net__waiting) := ⟨rfl, rfl, rfl, by decide +kernel, rfl, by decide +kernel, by decide +kernel⟩
abbrev s_Net__joinings : Stmt := inClass (top 37) 18
theorem sc_Net__joinings : FnScope ["self", "stage", "number", "pair"] ["self", "stage", "number"] (defScope s_Net__joinings) := ⟨rfl, rfl, rfl, by decide +kernel, rfl, by decide +kernel, by decide +kernel⟩
abbrev s_Net__want_hand : Stmt := inClass (top 37) 1
theorem sc_Net__want_hand : FnScope ["self", "hand"] ["self", "hand"] (defScope s_Net__want_hand) := ⟨rfl, rfl, rfl, by decide +kernel, rfl, by decide +kernel, by decide +kernel⟩
abbrev s_Net__want_lost : Stmt := inClass (top 37) 3
theorem sc_Net__want_lost : FnScope ["self", "lost", "one"] ["self", "lost"] (defScope s_Net__want_lost) := ⟨rfl, rfl, rfl, by decide +kernel, rfl, by decide +kernel, by decide +kernel⟩
abbrev s_Net__go_on : Stmt := inClass (top 37) 6
theorem sc_Net__go_on : FnScope ["self", "lost", "k", "side", "stage", "number", "pair"] ["self", "lost"] (defScope s_Net__go_on) := ⟨rfl, rfl, rfl, by decide +kernel, rfl, by decide +kernel, by decide +kernel⟩
abbrev s_Net__is_forgotten : Stmt := inClass (top 37) 4
theorem sc_Net__is_forgotten : FnScope ["self", "pair", "stage", "number", "ask", "end"] ["self", "pair"] (defScope s_Net__is_forgotten) := ⟨rfl, rfl, rfl, by decide +kernel, rfl, by decide +kernel, by decide +kernel⟩
abbrev s_Net__take : Stmt := inClass (top 37) 7
theorem sc_Net__take : FnScope ["self", "side", "row", "box", "deed", "numbers", "number"] ["self", "side"] (defScope s_Net__take) := ⟨rfl, rfl, rfl, by decide +kernel, rfl, by decide +kernel, by decide +kernel⟩
abbrev s_Net__hand_on : Stmt := inClass (top 37) 9
theorem sc_Net__hand_on : FnScope ["self", "stage", "number", "first", "figure", "row"] ["self", "stage", "number"] (defScope s_Net__hand_on) := ⟨rfl, rfl, rfl, by decide +kernel, rfl, by decide +kernel, by decide +kernel⟩
abbrev s_Net__end : Stmt := inClass (top 37) 8
theorem sc_Net__end : FnScope ["self", "number", "box", "deed", "values"] ["self", "number"] (defScope s_Net__end) := ⟨rfl, rfl, rfl, by decide +kernel, rfl, by decide +kernel, by decide +kernel⟩
abbrev s_Net__does_go : Stmt := inClass (top 37) 10
theorem sc_Net__does_go : FnScope ["self", "stage", "number", "one", "box", "deed", "numbers", "k", "there", "other", "alike", "place"] ["self", "stage", "number", "one"] (defScope s_Net__does_go) := ⟨rfl, rfl, rfl, by decide +kernel, rfl, by decide +kernel, by decide +kernel⟩
structure Bl (K : PySem.W.Frag) (mg : Str → Option Value) : Prop where
  all_ : mg "all" = none
  bool_ : mg "bool" = none
  divmod_ : mg "divmod" = none
  enumerate_ : mg "enumerate" = none
  int_ : mg "int" = none
  isinstance_ : mg "isinstance" = none
  len_ : mg "len" = none
  list_ : mg "list" = none
  max_ : mg "max" = none
  min_ : mg "min" = none
  range_ : mg "range" = none
  sorted_ : mg "sorted" = none
  sum_ : mg "sum" = none
  tuple_ : mg "tuple" = none
  MOST_BOXES_ : ∃ t, mg "MOST_BOXES" = some (.int (16) t)
  HANDS_ : ∃ t, mg "HANDS" = some (.int (16) t)
  MOST_ROOM_ : ∃ t, mg "MOST_ROOM" = some (.int (6) t)
  MOST_KEPT_ : ∃ t, mg "MOST_KEPT" = some (.int (6) t)
  MOST_ASKS_ : ∃ t, mg "MOST_ASKS" = some (.int (40) t)
  Net_ : ClsF K mg "Net" ["amounts", "answers", "asked", "depth", "ends", "kept", "now", "order", "pairs", "room", "rows"]

/-! SPLIT -/
end Toy
/-! ### enumerate of a tuple -/
namespace PySem
open Sem (wp)
open AutoSeq1 (wpAny_loadPart')
theorem meets_enumerate_newTu (l : Addr) (items : Array Value) (n : Nat) (dct : Option Addr) (sl : Array (Option Value)) :
    Meets (Builtin.«enumerate.__new__» ⟨[.type "enumerate", .ref l], []⟩) (fun _ R s => s.heap.get? l = some { cls := .type "tuple", dict := dct, data := .seq items n, slots := sl } ∧
      R (.ok (.ret (.ref (s.heap.push { cls := .type "tuple_iterator", data := .fields #[.ref l, .int 0 0] }).objs.size)))
        { s with heap := (s.heap.push { cls := .type "tuple_iterator", data := .fields #[.ref l, .int 0 0] }).push { cls := .type "enumerate", data := .fields #[.none, .bool false, .ref s.heap.objs.size, rawInt 0, .none, .none] } }) :=
  .of_wp fun prog w A R s h => by
    obtain ⟨hp, g, d, tk, os⟩ := s; obtain ⟨hl, h⟩ := h
    have hsub := sub_enumerate
    have hL : Heap.IsTuple (Shared.heap ⟨hp, g, d, tk, os⟩) l items := ⟨_, hl, rfl, n, rfl⟩
    wp_walk using wpAny_loadPart' hl
    refine wpAny_stack_any fun st => wpAny_pure ?_
    split
    · rename_i c _ _ _ _ _
      cases (c == Value.type "enumerate")
      · wp_walk using wpAny_loadPart' hl, wpAny_pyIter_tuple hL
        exact ⟨_, rfl, h⟩
      · wp_walk using wpAny_loadPart' hl, wpAny_pyIter_tuple hL
        exact ⟨_, rfl, h⟩
    · wp_walk using wpAny_loadPart' hl, wpAny_pyIter_tuple hL
      exact ⟨_, rfl, h⟩
theorem call_enumerate_tup {prog : Program} {w : World} {A : Around} {E : Value → Shared → Prop} {s : Shared} {l : Addr} {items : Array Value} {Q : Value → Shared → Prop} (hL : s.heap.IsTuple l items)
    (h : ∀ h', IsEnum h' (s.heap.objs.size + 1) s.heap.objs.size 0 .none → h'.IsTupleIter s.heap.objs.size l 0 → h'.objs.size = s.heap.objs.size + 2 →
      (∀ b o, s.heap.get? b = some o → h'.get? b = some o) → Q (.ref (s.heap.objs.size + 1)) { s with heap := h' }) :
    wpAny (model prog w) A (call (.type "enumerate") [.ref l]) Q E s := by
  obtain ⟨⟨c, dct, dt, sl⟩, hl, hc, n, hd⟩ := hL
  replace hc : c = .type "tuple" := hc
  replace hd : dt = .seq items n := hd
  subst hc hd
  refine callType_new F.called_enumerate (by decide) (F.typeCall_enumerate_1 _) (F.newCall_enumerate_1 _) (fun obj => F.args_object_init_2 obj _) F.entry_enumerate_new
    (meets_enumerate_newTu l items n dct sl) ⟨hl, ?_⟩
  have hz : (s.heap.push { cls := .type "tuple_iterator", data := .fields #[.ref l, .int 0 0] }).objs.size = s.heap.objs.size + 1 := Heap.size_push ..
  show _ ∧ _
  rw [hz]
  have he : IsEnum ((s.heap.push { cls := .type "tuple_iterator", data := .fields #[.ref l, .int 0 0] }).push
      { cls := .type "enumerate", data := .fields #[.none, .bool false, .ref s.heap.objs.size, rawInt 0, .none, .none] }) (s.heap.objs.size + 1) s.heap.objs.size 0 .none := by
    have := Heap.get?_push_size (s.heap.push { cls := .type "tuple_iterator", data := .fields #[.ref l, .int 0 0] })
      (o := { cls := .type "enumerate", data := .fields #[.none, .bool false, .ref s.heap.objs.size, rawInt 0, .none, .none] }) rfl
    rw [hz] at this; exact this
  refine ⟨⟨_, he, rfl⟩, h _ he ⟨_, Heap.get?_push_of_some _ (Heap.get?_push_size _ rfl), rfl, rfl⟩ (by rw [Heap.size_push, hz]) fun b o x => Heap.get?_push_of_some _ (Heap.get?_push_of_some _ x)⟩
end PySem
namespace Toy
open PySem PySem.Spec PyProof.Rows L2
theorem tup_is {h : Heap} {a : Addr} {its : Array Value} (p : IsTup h a its) : h.IsTuple a its := p
/-- the tuple at a as it stands at each turn, each item in a new pair -/
def IteT (K : PySem.W.Frag) (a : Addr) : It :=
  ⟨fun i H => ∃ (xs : List V) (x : V), SqT K H a xs ∧ xs[i]? = some x, fun i H v H' => ∃ T x, v = .ref T ∧ H T = none ∧ H' = upd H T (.tup [.int (i : Nat), x]) ∧ ∀ xs, SqT K H a xs → xs[i]? = some x, fun i H => ∃ xs : List V, SqT K H a xs ∧ xs.length = i⟩
theorem turn_enumTu {P : Program} {w : World} {K : PySem.W.Frag} {elts : List Expr} {kk : Nat} {tpos : Pos} (a e it : Addr) (hai : a ≠ it) :
    Turn P w K (.Tuple elts kk tpos) (IteT K a) [e, it] e (fun i h => (∃ old, IsEnum h e it ((i : Nat) : Int) old) ∧ h.IsTupleIter it a i ∧ e ≠ it ∧ e ≠ a) where
  mem := by simp
  obj := fun i h st b hb => by
    obtain ⟨⟨old, he⟩, ⟨o, ho, hc, hd⟩, _⟩ := st
    have e' : b = e ∨ b = it := by simpa using hb
    rcases e' with z | z
    · rw [z]; exact ⟨_, he, fun v q => nomatch q⟩
    · rw [z]; exact ⟨o, ho, fun v q => by rw [hd] at q; cases q⟩
  keep := fun i h h' st k => let ⟨⟨old, he⟩, hi, hne⟩ := st; ⟨⟨old, k e (by simp) _ he⟩, hi.at fun o q => k it (by simp) o q, hne⟩
  item := by
    intro X hP hw hK hc i pins s σ H E I hf st hg
    subst hP hw hK
    obtain ⟨⟨old, he⟩, hit, hne, hea⟩ := st
    obtain ⟨xs, x, hq, hx⟩ := hg
    obtain ⟨its, rv, p, hz⟩ := I.tuple hq
    obtain ⟨u, hu, ru⟩ := rv.get hx
    have hel : e < s.heap.objs.size := Heap.lt_size he
    have hil : it < s.heap.objs.size := by obtain ⟨_, q, _⟩ := hit; exact Heap.lt_size q
    refine wpAny_pyNext_enum_itemD (Draws.tuple (show X.A.in1.handled = none from I.ok.hd hc) it a hai its.toArray) he ⟨hit, tup_is p⟩ (by have h1 := rv.length; have h2 := (List.getElem?_eq_some_iff.mp hx).1; rw [List.size_toArray]; omega) hne (by simp [hne, hea]) fun x' h' tk hP ho hst' hT hsz hk => ?_
    obtain ⟨hit', ht'⟩ := hst'
    have ex : x' = u := by
      have h1 : its[i]? = some x' := by simpa using hP
      rw [hu] at h1
      exact (Option.some.inj h1).symm
    subst ex
    refine ⟨_, rfl, wpAny_letOwnedTupleGo_enum (s := { s with heap := h', toks := tk + 1 }) ho fun h'' he' sb => ?_⟩
    have hT2 : h''.get? s.heap.objs.size = some { cls := .type "tuple", data := .seq #[.int i tk, x'] } := (sb.2 _ (Nat.ne_of_gt hel)).trans hT
    have new : ObjOk X.prog X.w (upd H s.heap.objs.size (.tup [.int (i : Nat), x])) h'' s.heap.objs.size (.tup [.int (i : Nat), x]) :=
      ⟨by show 2 ≤ sizeLine; decide, [.int i tk, x'], .cons ⟨_, rfl⟩ (.cons ru .nil), ⟨_, hT2, rfl, _, rfl⟩⟩
    have I1 : Inv X pins σ (upd H s.heap.objs.size (.tup [.int (i : Nat), x])) { s with heap := h'', toks := tk + 1 } :=
      I.turnedNew (ch := [e, it]) (fun b ob hb q => (sb.2 b (fun z => hb (by simp [z]))).trans (hk b ob (fun z => hb (by simp [z])) (fun z => hb (by simp [z])) q)) hf (Nat.le_refl _) new
    refine ⟨.ref s.heap.objs.size, _, I1, rfl, ⟨_, x, rfl, I.hok.fresh (Nat.le_refl _), rfl, fun ys hy => by rw [I.tuple_inj hy hq]; exact hx⟩, ⟨⟨x', ?_⟩, hit'.at fun o q => (sb.2 it (Ne.symm hne)).trans q, hne, hea⟩, fun b hb => ?_⟩
    · have e1 : ((i + 1 : Nat) : Int) = (i : Int) + 1 := by omega
      rw [e1]; exact he'
    · have hb' : b < s.heap.objs.size := by
        have e' : b = e ∨ b = it := by simpa using hb
        rcases e' with z | z
        · rw [z]; exact hel
        · rw [z]; exact hil
      rw [upd_ne (Nat.ne_of_lt hb')]
      exact (hf b hb).1
  done := by
    intro X hP hw hK hc i pins s σ H E I hf st hg
    subst hP hw hK
    obtain ⟨⟨old, he⟩, hit, hne, hea⟩ := st
    obtain ⟨xs, hq, hx⟩ := hg
    obtain ⟨its, rv, p, hz⟩ := I.tuple hq
    obtain ⟨f0, f1, f2, f3, f4, f5⟩ := hf it (by simp)
    have hl := rv.length
    have e2 : i = its.toArray.size := by rw [List.size_toArray]; omega
    rw [e2] at hit he
    exact wpAny_pyNext_enum_endD (Draws.tuple (show X.A.in1.handled = none from I.ok.hd hc) it a hai its.toArray) he ⟨hit, tup_is p⟩ fun h' eb => ⟨rfl, I.turned (t' := s.toks) (fun b o hb q => eb b o hb q) f0 f1 f3 f4 f5⟩
  self := fun A i s Q E st h => let ⟨⟨_, he⟩, _⟩ := st; wpAny_pyIter_enum he h
def iEnumT (K : PySem.W.Frag) (ta : TA) : TI := fun σ H R => ta σ H fun vs H1 => ∃ a xs, vs = [.ref a] ∧ SqT K H1 a xs ∧ R (IteT K a) H1
theorem pi_enumT {X : Cx} {e : Expr} {ta : TA} {p pos tpos : Pos} {elts : List Expr} {kk : Nat} (hg : Gl X "enumerate") (hm : X.mg "enumerate" = none) (ha : PA X [e] ta) (hs : starEach [e] X.env = [(false, eval e X.env)] := by rfl) :
    PI X (.Tuple elts kk tpos) (.Call (.Name "enumerate" p) [e] [] pos) (iEnumT X.K ta) := by
  refine ⟨fun pins s σ H R I h => ?_⟩
  refine Call_ (ld_blt I hg hm boot_enumerate (PyProof.Rows.callWith_type1 (thn (ha.run pos pins s σ H _ I h) fun us s1 ⟨vs, H1, I1, r1, q1⟩ => ?_) hs rfl))
  obtain ⟨a, xs, ex, hq, q⟩ := q1
  subst ex
  cases r1 with
  | cons r rr =>
    cases rr
    cases r
    obtain ⟨its, rv, p', hz⟩ := I1.tuple hq
    have hal : a < s1.heap.objs.size := by obtain ⟨o, ho, _⟩ := p'; exact Heap.lt_size ho
    refine call_enumerate_tup (tup_is p') fun h' he hit hsz hk => wpAny_pyIter_enum he ?_
    have I2 : Inv X pins σ H1 { s1 with heap := h' } := I1.kept (t' := s1.toks) hk
    refine ⟨s1.heap.objs.size + 1, [s1.heap.objs.size + 1, s1.heap.objs.size], _, _, H1, rfl, I2, turn_enumTu a (s1.heap.objs.size + 1) s1.heap.objs.size (Nat.ne_of_lt hal), ⟨⟨.none, he⟩, hit, Nat.succ_ne_self _, Nat.ne_of_gt (Nat.lt_succ_of_lt hal)⟩, fun b hb => ?_, q⟩
    have e' : b = s1.heap.objs.size + 1 ∨ b = s1.heap.objs.size := by simpa using hb
    have hle : s1.heap.objs.size ≤ b := by
      rcases e' with z | z
      · rw [z]; exact Nat.le_add_right _ _
      · rw [z]; exact Nat.le_refl _
    exact I1.fpOk hle (I1.hok.fresh hle)
theorem for_enumT {K : PySem.W.Frag} {a : Addr} {xs : List V} {g : TG} {tb : TS} {D : Ends} {σ : L2.St} {H : Hp} (Pv : Nat → L2.St → Hp → Prop) (h0 : Pv 0 σ H) (hl : ∀ i σ H, i ≤ xs.length → Pv i σ H → SqT K H a xs)
    (hs : ∀ (i : Nat) x (T : Addr) σ H, xs[i]? = some x → Pv i σ H → H T = none → g (.ref T) σ (upd H T (.tup [.int i, x])) fun σ2 H2 => tb { D with nx := Pv (i + 1), ct := Pv (i + 1), bk := D.nx } σ2 H2) (hd : ∀ σ H, Pv xs.length σ H → D.nx σ H) :
    ∃ W : Nat → Nat → L2.St → Hp → Prop, (∃ m, W 0 m σ H) ∧ ∀ i m σ H, W i m σ H →
      ((IteT K a).stop i H ∧ D.nx σ H) ∨ ((IteT K a).go i H ∧ ∃ N : L2.St → Hp → Prop, (∀ σ' H', N σ' H' → ∃ m', m' < m ∧ W (i + 1) m' σ' H') ∧ ∀ x H', (IteT K a).yld i H x H' → g x σ H' fun σ2 H2 => tb { D with nx := N, ct := N, bk := D.nx } σ2 H2) := by
  refine ⟨fun i m σ H => m = xs.length - i ∧ i ≤ xs.length ∧ Pv i σ H, ⟨xs.length, by simp, Nat.zero_le _, h0⟩, ?_⟩
  rintro i m σ H ⟨rfl, hi, p⟩
  have q := hl i σ H hi p
  by_cases hlt : i < xs.length
  · refine .inr ⟨⟨xs, xs[i], q, List.getElem?_eq_getElem hlt⟩, Pv (i + 1), fun σ' H' p' => ⟨xs.length - (i + 1), by omega, rfl, hlt, p'⟩, fun x H' y => ?_⟩
    obtain ⟨T, z, rfl, hT, rfl, hz⟩ := y
    exact hs i z T σ H (hz xs q) p hT
  · have e : i = xs.length := by omega
    subst e
    exact .inl ⟨⟨xs, q, rfl⟩, hd σ H p⟩
/-! ### loops over any iterable: the forms one uses -/
theorem lc_it {I : It} {n : Nat} {g : TG} {tt : TT} {te : TE} {vs : List Nat} {σ : L2.St} {H1 : Hp} {D : Addr} {Qd : Hp → Prop} (Pv : Nat → Hp → Prop) (h0 : Pv 0 (upd H1 D (.lst [])))
    (hgo : ∀ i H, i < n → Pv i H → I.go i H) (hst : ∀ H, Pv n H → I.stop n H)
    (hs : ∀ i x H H', i < n → Pv i H → I.yld i H x H' → g x (wipe σ vs) H' fun σ2 H2 => wipe σ2 vs = wipe σ vs ∧ tt σ2 H2 fun b H3 =>
      if b = true then te σ2 H3 fun y H4 => ∃ acc, H4 D = some (.lst acc) ∧ acc.length < sizeLine ∧ Pv (i + 1) (upd H4 D (.lst (acc ++ [y]))) else Pv (i + 1) H3) (hd : ∀ H, Pv n H → Qd H) :
    ∃ W : Nat → Nat → Hp → Prop, (∃ m, W 0 m (upd H1 D (.lst []))) ∧ ∀ i m H, W i m H →
      (I.stop i H ∧ Qd H) ∨ (I.go i H ∧ ∃ Nx : Hp → Prop, (∀ H', Nx H' → ∃ m', m' < m ∧ W (i + 1) m' H') ∧ ∀ x H', I.yld i H x H' → g x (wipe σ vs) H' fun σ2 H2 => wipe σ2 vs = wipe σ vs ∧ tt σ2 H2 fun b H3 =>
        if b = true then te σ2 H3 fun y H4 => ∃ acc, H4 D = some (.lst acc) ∧ acc.length < sizeLine ∧ Nx (upd H4 D (.lst (acc ++ [y]))) else Nx H3) := by
  refine ⟨fun i m H => m = n - i ∧ i ≤ n ∧ Pv i H, ⟨n, by simp, Nat.zero_le _, h0⟩, ?_⟩
  rintro i m H ⟨rfl, hi, p⟩
  by_cases hlt : i < n
  · exact .inr ⟨hgo i H hlt p, Pv (i + 1), fun H' p' => ⟨n - (i + 1), by omega, rfl, hlt, p'⟩, fun x H' y => hs i x H H' hlt p y⟩
  · have e : i = n := by omega
    subst e
    exact .inl ⟨hst H p, hd H p⟩
theorem for_it {I : It} {n : Nat} {g : TG} {tb : TS} {D : Ends} {σ : L2.St} {H : Hp} (Pv : Nat → L2.St → Hp → Prop) (h0 : Pv 0 σ H)
    (hgo : ∀ i σ H, i < n → Pv i σ H → I.go i H) (hst : ∀ σ H, Pv n σ H → I.stop n H)
    (hs : ∀ i x σ H H', i < n → Pv i σ H → I.yld i H x H' → g x σ H' fun σ2 H2 => tb { D with nx := Pv (i + 1), ct := Pv (i + 1), bk := D.nx } σ2 H2) (hd : ∀ σ H, Pv n σ H → D.nx σ H) :
    ∃ W : Nat → Nat → L2.St → Hp → Prop, (∃ m, W 0 m σ H) ∧ ∀ i m σ H, W i m σ H →
      (I.stop i H ∧ D.nx σ H) ∨ (I.go i H ∧ ∃ N : L2.St → Hp → Prop, (∀ σ' H', N σ' H' → ∃ m', m' < m ∧ W (i + 1) m' σ' H') ∧ ∀ x H', I.yld i H x H' → g x σ H' fun σ2 H2 => tb { D with nx := N, ct := N, bk := D.nx } σ2 H2) := by
  refine ⟨fun i m σ H => m = n - i ∧ i ≤ n ∧ Pv i σ H, ⟨n, by simp, Nat.zero_le _, h0⟩, ?_⟩
  rintro i m σ H ⟨rfl, hi, p⟩
  by_cases hlt : i < n
  · exact .inr ⟨hgo i σ H hlt p, Pv (i + 1), fun σ' H' p' => ⟨n - (i + 1), by omega, rfl, hlt, p'⟩, fun x H' y => hs i x σ H H' hlt p y⟩
  · have e : i = n := by omega
    subst e
    exact .inl ⟨hst σ H p, hd σ H p⟩
/-- [.. for i, x in enumerate(xs)] -/
theorem lc_enum {K : PySem.W.Frag} {a : Addr} {xs : List V} {g : TG} {tt : TT} {te : TE} {vs : List Nat} {σ : L2.St} {H1 : Hp} {D : Addr} {Qd : Hp → Prop} (Pv : Nat → Hp → Prop) (h0 : Pv 0 (upd H1 D (.lst []))) (hl : ∀ i H, i ≤ xs.length → Pv i H → SqL K H a xs)
    (hs : ∀ (i : Nat) x (T : Addr) H, xs[i]? = some x → Pv i H → H T = none → g (.ref T) (wipe σ vs) (upd H T (.tup [.int i, x])) fun σ2 H2 => wipe σ2 vs = wipe σ vs ∧ tt σ2 H2 fun b H3 =>
      if b = true then te σ2 H3 fun y H4 => ∃ acc, H4 D = some (.lst acc) ∧ acc.length < sizeLine ∧ Pv (i + 1) (upd H4 D (.lst (acc ++ [y]))) else Pv (i + 1) H3) (hd : ∀ H, Pv xs.length H → Qd H) :
    ∃ W : Nat → Nat → Hp → Prop, (∃ m, W 0 m (upd H1 D (.lst []))) ∧ ∀ i m H, W i m H →
      ((Ite K a).stop i H ∧ Qd H) ∨ ((Ite K a).go i H ∧ ∃ Nx : Hp → Prop, (∀ H', Nx H' → ∃ m', m' < m ∧ W (i + 1) m' H') ∧ ∀ x H', (Ite K a).yld i H x H' → g x (wipe σ vs) H' fun σ2 H2 => wipe σ2 vs = wipe σ vs ∧ tt σ2 H2 fun b H3 =>
        if b = true then te σ2 H3 fun y H4 => ∃ acc, H4 D = some (.lst acc) ∧ acc.length < sizeLine ∧ Nx (upd H4 D (.lst (acc ++ [y]))) else Nx H3) := by
  refine lc_it (I := Ite K a) (n := xs.length) Pv h0 (fun i H hi p => ⟨xs, xs[i], hl i H (Nat.le_of_lt hi) p, List.getElem?_eq_getElem hi⟩) (fun H p => ⟨xs, hl _ H (Nat.le_refl _) p, Nat.le_refl _⟩) ?_ hd
  rintro i x H H' hi p ⟨T, z, rfl, hT, rfl, hz⟩
  exact hs i z T H (hz xs (hl i H (Nat.le_of_lt hi) p)) p hT
theorem for_enum' {K : PySem.W.Frag} {a : Addr} {xs : List V} {g : TG} {tb : TS} {D : Ends} {σ : L2.St} {H : Hp} (Pv : Nat → L2.St → Hp → Prop) (h0 : Pv 0 σ H) (hl : ∀ i σ H, i ≤ xs.length → Pv i σ H → SqL K H a xs)
    (hs : ∀ (i : Nat) x (T : Addr) σ H, xs[i]? = some x → Pv i σ H → H T = none → g (.ref T) σ (upd H T (.tup [.int i, x])) fun σ2 H2 => tb { D with nx := Pv (i + 1), ct := Pv (i + 1), bk := D.nx } σ2 H2) (hd : ∀ σ H, Pv xs.length σ H → D.nx σ H) :
    ∃ W : Nat → Nat → L2.St → Hp → Prop, (∃ m, W 0 m σ H) ∧ ∀ i m σ H, W i m σ H →
      ((Ite K a).stop i H ∧ D.nx σ H) ∨ ((Ite K a).go i H ∧ ∃ N : L2.St → Hp → Prop, (∀ σ' H', N σ' H' → ∃ m', m' < m ∧ W (i + 1) m' σ' H') ∧ ∀ x H', (Ite K a).yld i H x H' → g x σ H' fun σ2 H2 => tb { D with nx := N, ct := N, bk := D.nx } σ2 H2) := by
  refine for_it (I := Ite K a) (n := xs.length) Pv h0 (fun i σ H hi p => ⟨xs, xs[i], hl i σ H (Nat.le_of_lt hi) p, List.getElem?_eq_getElem hi⟩) (fun σ H p => ⟨xs, hl _ σ H (Nat.le_refl _) p, Nat.le_refl _⟩) ?_ hd
  rintro i x σ H H' hi p ⟨T, z, rfl, hT, rfl, hz⟩
  exact hs i z T σ H (hz xs (hl i σ H (Nat.le_of_lt hi) p)) p hT
/-- xs[i] of a list, as a value -/
theorem get_listI {X : Cx} : PGet X (rIxL X.K) := by
  intro pins s σ H o i ov iv Q I ro ri h
  obtain ⟨p, xs, k, z, rfl, rfl, hq, he, q⟩ := h
  cases ro
  obtain ⟨t, rfl⟩ := ri
  obtain ⟨its, r, pl, hz⟩ := I.list hq
  obtain ⟨j, h1, h2, h3, h4, h5⟩ := atI_get he
  obtain ⟨w, ew, rw'⟩ := r.get h2
  have hl := r.length
  have hn := line63
  have fin : EP X pins σ Q w s := ⟨z, H, I, rw', q⟩
  by_cases h0 : 0 ≤ k
  · have hj : k.toNat = j := by
      rw [seqIndex_of h0 h5] at h1
      exact Option.some.inj h1
    exact wpAny_getItem_list pl.isList h0 (by omega) (by rw [hj]; simpa using ew) fin
  · have hj : (k + (its.toArray.size : Int)).toNat = j := by
      rw [seqIndex_neg (by omega) h4] at h1
      rw [List.size_toArray, ← hl]
      exact Option.some.inj h1
    exact wpAny_getItem_list_neg pl.isList (by omega) (by rw [List.size_toArray] <;> omega) (by omega) (by rw [hj]; simpa using ew) fin
end Toy
/-! ### xs[::-1] of a list -/
namespace Toy
open PySem PySem.Spec PyProof.Rows L2
def tRevL (K : PySem.W.Frag) (te : TE) : TE := fun σ H Q => te σ H fun x H1 => ∃ a xs, x = .ref a ∧ SqL K H1 a xs ∧ ∀ p, H1 p = none → Q (.ref p) (upd H1 p (.lst xs.reverse))
theorem pickR {its : List Value} : slicePick its.toArray none none (some (-1)) = its.reverse.toArray := by
  unfold slicePick
  congr 1
  have e : sliceBounds none none (some (-1)) its.toArray.size = ((its.length : Int) - 1, -1, -1) := by
    simp only [sliceBounds, Option.getD_some, List.size_toArray]
    rfl
  rw [e]
  dsimp only
  unfold sliceRange
  have h1 : ¬ ((-1 : Int) > 0) := by decide
  simp only [h1, if_false]
  have hc : (if (its.length : Int) - 1 > -1 then ((its.length : Int) - 1 - -1 - -1 - 1) / (- -1) else 0).toNat = its.length := by
    split
    · rw [show (- -1 : Int) = 1 by decide, Int.ediv_one]; omega
    · omega
  rw [hc, List.filterMap_map]
  apply List.ext_getElem?
  intro i
  have key : ∀ n, n ≤ its.length → (List.range n).filterMap ((fun j => its.toArray[j]?) ∘ fun k : Nat => ((its.length : Int) - 1 + -1 * (k : Int)).toNat) = its.reverse.take n := by
    intro n
    induction n with
    | zero => intro _; rfl
    | succ n ih =>
      intro h
      have hn : n < its.reverse.length := by rw [List.length_reverse]; omega
      rw [List.range_succ, List.filterMap_append, ih (by omega), List.take_succ, List.getElem?_eq_getElem hn]
      congr 1
      rw [List.filterMap_cons, List.filterMap_nil]
      have e2 : ((fun j => its.toArray[j]?) ∘ fun k : Nat => ((its.length : Int) - 1 + -1 * (k : Int)).toNat) n = some its.reverse[n] := by
        show its.toArray[((its.length : Int) - 1 + -1 * (n : Int)).toNat]? = _
        rw [show ((its.length : Int) - 1 + -1 * (n : Int)).toNat = its.length - 1 - n by omega, List.getElem_reverse, List.getElem?_toArray, List.getElem?_eq_getElem (by omega)]
      rw [e2] <;> rfl
  have k2 := key its.length (Nat.le_refl _)
  rw [List.take_of_length_le (by rw [List.length_reverse]; exact Nat.le_refl _)] at k2
  exact congrArg (fun l => l[i]?) k2
theorem pe_revL {X : Cx} {e : Expr} {te : TE} {k : Nat} {p1 p2 p3 pos : Pos} (he : PE X e te) : PE X (.Subscript e (.Slice none none (some (.UnaryOp .USub (.Constant (.int 1) k p1) p2)) p3) pos) (tRevL X.K te) := by
  refine ⟨fun pins s σ H Q I h => ?_⟩
  refine Subscript_ (thn (he.run pins s σ H _ I h) fun v s1 ⟨x, H1, I1, r1, q1⟩ => ?_)
  obtain ⟨a, xs, ex, hx, q⟩ := q1
  subst ex
  cases r1
  have hst : PO X (some (.UnaryOp .USub (.Constant (.int 1) k p1) p2)) (tPart _) := po_some (pe_un un_neg pe_int)
  refine wpAny_Slice (thn (po_none.run pins s1 σ H1 (fun o H2 => o = none ∧ H2 = H1) I1 ⟨rfl, rfl⟩) fun vl s2 ⟨l, H2, I2, pl, el, e2⟩ => ?_)
  subst el e2
  refine thn (po_none.run pins s2 σ H2 (fun o H3 => o = none ∧ H3 = H2) I2 ⟨rfl, rfl⟩) fun vu s3 ⟨u, H3, I3, pu, eu, e3⟩ => ?_
  subst eu e3
  refine thn (hst.run pins s3 σ H3 (fun o H4 => o = some (-1) ∧ H4 = H3) I3 ?_) fun vs s4 ⟨o, H4, I4, ps, eo, e4⟩ => ?_
  · exact ⟨_, rfl, _, rfl, rfl, rfl⟩
  subst eo e4
  have I5 : Inv X pins σ H4 { s4 with heap := s4.heap.push { cls := .type "slice", data := .fields #[vl, vu, vs] } } := I4.kept (t' := s4.toks) fun b ob q => Heap.get?_push_of_some _ q
  obtain ⟨its, r, ht, hz⟩ := I5.list hx
  have hlen := r.length
  show wpAny (model X.prog X.w) X.A (subscriptTail e (.Slice none none (some (.UnaryOp .USub (.Constant (.int 1) k p1) p2)) p3) (.ref a) (.ref s4.heap.objs.size)) (EP X pins σ Q) X.xe { s4 with heap := s4.heap.push { cls := .type "slice", data := .fields #[vl, vu, vs] } }
  refine tail_any (ops := [.ref a, .ref s4.heap.objs.size]) ht.isList.typeIs (PySem.slot_list_getitem.lookup) ?_ (by with_unfolding_all rfl)
  refine wpAny_getItem_list_slice ht.isList (Heap.IsSliceOf.new _ vl vu vs) pl pu ps (by decide) ?_ (by rw [List.size_toArray]; omega)
  rw [pickR]
  refine ⟨.ref _, _, I5.laid (t' := s4.toks) (o := .lst xs.reverse) (fun b ob q => Heap.get?_push_of_some _ q) (Nat.le_refl _) ?_, rfl, q _ (I5.hok.fresh (Nat.le_refl _))⟩
  exact ⟨by rw [List.length_reverse]; exact hz, _, 0, Vals.reverse r, Heap.get?_push_size _ rfl⟩
end Toy
namespace Toy
open PySem PySem.Spec PyProof.Rows L2
end Toy
/-! ### data that is compared: no truths in it -/
namespace Toy
open PySem PySem.Spec PyProof.Rows L2
mutual
def nb : PyData → Bool
  | .none => true
  | .bool _ => false
  | .int _ => true
  | .str _ => true
  | .list ds => nbs ds
  | .tuple ds => nbs ds
  | .dict _ => false
def nbs : List PyData → Bool
  | [] => true
  | d :: ds => nb d && nbs ds
end
theorem nbs_of : ∀ {ds : List PyData}, (∀ d ∈ ds, nb d = true) → nbs ds = true
  | [], _ => by simp [nbs]
  | d :: ds, h => by simp [nbs, h d List.mem_cons_self, nbs_of (ds := ds) fun x hx => h x (List.mem_cons_of_mem _ hx)]
mutual
theorem eqv_nb : ∀ d e : PyData, nb d = true → nb e = true → PyData.eqv d e = true → d = e
  | .none, e, _, h, q => by cases e <;> simp_all [PyData.eqv, nb]
  | .int i, e, _, h, q => by cases e <;> simp_all [PyData.eqv, nb]
  | .str x, e, _, h, q => by cases e <;> simp_all [PyData.eqv, nb]
  | .bool _, _, h, _, _ => by simp [nb] at h
  | .dict _, _, h, _, _ => by simp [nb] at h
  | .list ds, e, h, g, q => by
    cases e with
    | list es =>
      rw [PyData.eqv] at q
      exact congrArg PyData.list (eqvs_nb ds es (by simpa [nb] using h) (by simpa [nb] using g) q)
    | _ => simp [PyData.eqv] at q
  | .tuple ds, e, h, g, q => by
    cases e with
    | tuple es =>
      rw [PyData.eqv] at q
      exact congrArg PyData.tuple (eqvs_nb ds es (by simpa [nb] using h) (by simpa [nb] using g) q)
    | _ => simp [PyData.eqv] at q
theorem eqvs_nb : ∀ ds es : List PyData, nbs ds = true → nbs es = true → PyData.eqvAll ds es = true → ds = es
  | [], [], _, _, _ => rfl
  | [], _ :: _, _, _, q => by simp [PyData.eqvAll] at q
  | _ :: _, [], _, _, q => by simp [PyData.eqvAll] at q
  | d :: ds, e :: es, h, g, q => by
    simp only [nbs, Bool.and_eq_true] at h g
    simp only [PyData.eqvAll, Bool.and_eq_true] at q
    rw [eqv_nb d e h.1 g.1 q.1, eqvs_nb ds es h.2 g.2 q.2]
end
structure Ly (n : Nat) (d : PyData) : Prop where
  can : d.canLay0 = true
  dep : d.depth ≤ n
  no : nb d = true
theorem Ly.non {n : Nat} : Ly n .none := ⟨by simp [PyData.canLay0], by simp [PyData.depth], by simp [nb]⟩
theorem Ly.int {n : Nat} {i : Int} : Ly n (.int i) := ⟨by simp [PyData.canLay0], by simp [PyData.depth], by simp [nb]⟩
theorem Ly.str {n : Nat} {x : Str} (h : (PyData.str x).canLay0 = true := by decide +kernel) : Ly n (.str x) := ⟨h, by simp [PyData.depth], by simp [nb]⟩
theorem Ly.mono {n m : Nat} {d : PyData} (a : Ly n d) (h : n ≤ m) : Ly m d := ⟨a.can, Nat.le_trans a.dep h, a.no⟩
theorem can_all : ∀ {ds : List PyData}, (∀ d ∈ ds, d.canLay0 = true) → PyData.canLayAll0 ds = true
  | [], _ => by simp [PyData.canLayAll0]
  | d :: ds, h => by simp [PyData.canLayAll0, h d List.mem_cons_self, can_all (ds := ds) fun x hx => h x (List.mem_cons_of_mem _ hx)]
theorem dep_all {n : Nat} : ∀ {ds : List PyData}, (∀ d ∈ ds, d.depth ≤ n) → PyData.depthAll ds ≤ n
  | [], _ => by simp [PyData.depthAll]
  | d :: ds, h => by
    have h1 := h d List.mem_cons_self
    have h2 := dep_all (ds := ds) fun x hx => h x (List.mem_cons_of_mem _ hx)
    simp only [PyData.depthAll]
    omega
theorem Ly.lst {n : Nat} {ds : List PyData} (h : ∀ d ∈ ds, Ly n d) : Ly (n + 1) (.list ds) :=
  ⟨by simp only [PyData.canLay0]; exact can_all fun d hd => (h d hd).can, by simp only [PyData.depth]; have := dep_all fun d hd => (h d hd).dep; omega, by simp only [nb]; exact nbs_of fun d hd => (h d hd).no⟩
theorem Ly.tup {n : Nat} {ds : List PyData} (h : ∀ d ∈ ds, Ly n d) : Ly (n + 1) (.tuple ds) :=
  ⟨by simp only [PyData.canLay0]; exact can_all fun d hd => (h d hd).can, by simp only [PyData.depth]; have := dep_all fun d hd => (h d hd).dep; omega, by simp only [nb]; exact nbs_of fun d hd => (h d hd).no⟩
theorem Ly.tupI {ns : List Int} : Ly 1 (.tuple (ns.map PyData.int)) := .tup fun d hd => by obtain ⟨i, _, rfl⟩ := List.mem_map.mp hd; exact .int
theorem Ly.lstI {ns : List Int} : Ly 1 (.list (ns.map PyData.int)) := .lst fun d hd => by obtain ⟨i, _, rfl⟩ := List.mem_map.mp hd; exact .int
theorem Ly.tup2 {n : Nat} {a b : PyData} (ha : Ly n a) (hb : Ly n b) : Ly (n + 1) (.tuple [a, b]) := .tup fun d hd => by
  rcases List.mem_cons.mp hd with rfl | hd
  · exact ha
  · cases List.mem_singleton.mp hd; exact hb
theorem Ly.sh {n : Nat} {d : PyData} (a : Ly n d) (h : n ≤ 64 := by decide) : SeqAt.shaped d = true := by
  show (d.canLay0 && decide (d.depth ≤ 64)) = true
  rw [a.can, decide_eq_true (Nat.le_trans a.dep h)] <;> rfl
theorem Ly.refl {n : Nat} {d : PyData} (a : Ly n d) (h : n ≤ 64 := by decide) : PyData.eqv d d = true := SeqAt.eqv_refl _ (SeqAt.canLay_of_shaped (a.sh h))
theorem Ly.eq {n m : Nat} {d e : PyData} (a : Ly n d) (b : Ly m e) (h : PyData.eqv d e = true) : d = e := eqv_nb d e a.no b.no h
theorem Ly.ne {n m : Nat} {d e : PyData} (a : Ly n d) (b : Ly m e) (h : d ≠ e) : PyData.eqv d e = false := by
  cases c : PyData.eqv d e with
  | false => rfl
  | true => exact absurd (a.eq b c) h
theorem dpAll_of {K : PySem.W.Frag} {H : Hp} : ∀ {xs : List V} {ds : List PyData}, xs.length = ds.length → (∀ (i : Nat) (x : V) (d : PyData), xs[i]? = some x → ds[i]? = some d → Dp K H x d) → DpAll K H xs ds
  | [], [], _, _ => .nil
  | [], _ :: _, h, _ => by simp at h
  | _ :: _, [], h, _ => by simp at h
  | x :: xs, d :: ds, h, q => .cons (q 0 x d rfl rfl) (dpAll_of (by simpa using h) fun i y e h1 h2 => q (i + 1) y e (by simpa using h1) (by simpa using h2))
theorem dp_tup2 {K : PySem.W.Frag} {H : Hp} {p : Addr} {x y : V} {a b : PyData} (h : SqT K H p [x, y]) (ha : Dp K H x a) (hb : Dp K H y b) : Dp K H (.ref p) (.tuple [a, b]) := .tup h (.cons ha (.cons hb .nil))
end Toy
/-! ### sorted(t) of a tuple -/
namespace SrtO
open PySem PyProof.Rows Srt
section
variable {prog : Program} {w : World} {A : Around} {E : Value → Shared → Prop} {s : Shared}
theorem collect_tupT {l : Addr} {vs : List Value} {Q : List Value → Shared → Prop} (hl : s.heap.IsTuple l vs.toArray)
    (h : Q vs { s with heap := (s.heap.push (seqObj "list" #[] 0)).update s.heap.objs.size (Obj.mapSeq (· ++ vs.toArray)) }) (hsz : vs.length ≤ sizeLine := by size_fits) :
    wpAny (model prog w) A (collect (.ref l)) Q E s := by
  obtain ⟨o, ho, hc, n, hd⟩ := id hl
  unfold collect
  refine wpAny_bind (wpAny_runValue (codeAny_builtin entry_proto_collect' ?_))
  show wpAny _ _ (do again (.builtin "list.__iadd__" ⟨[← newList [], .ref l], []⟩)) _ _ s
  refine wpAny_bind (wpAny_newList (wpAny_pure ⟨Code.quiet_builtin _ (by decide +kernel), codeAny_builtin entry_list_iadd' ?_⟩))
  show wpAny _ _ (Builtin.List.listExtendWith (.ref s.heap.objs.size) (.ref l) (.ref s.heap.objs.size)) _ _ { s with heap := s.heap.push (seqObj "list" #[] 0) }
  unfold Builtin.List.listExtendWith
  have ho' : (s.heap.push (seqObj "list" #[] 0)).get? l = some o := Heap.get?_push_of_some _ ho
  refine wpAny_bind (wpAny_typeOf (T := "tuple") ⟨o, ho', hc⟩ ?_)
  have ht : (Value.type "tuple" == Value.type "tuple") = true := by rfl
  rw [if_pos (by rw [ht]; simp)]
  refine wpAny_bind (listItems_at ho' hd ?_)
  refine wpAny_bind (listItems_at (xs := #[]) (n := 0) (Heap.get?_push_size _ rfl) rfl ?_)
  rw [if_neg (by simp)]
  refine wpAny_bind (listUpdate_at (xs := #[]) (n := 0) (Heap.get?_push_size _ rfl) rfl ?_ (Nat.zero_le _) (by show (#[] ++ vs.toArray).size ≤ sizeLine + 1; simp only [Array.size_append, List.size_toArray, List.length_nil]; omega))
  refine wpAny_pure ?_
  show wpAny (model prog w) A (do
      let o ← load s.heap.objs.size
      match o.data with
      | .seq xs _ => pure xs.toList
      | _ => unsupported "internal:collect") Q E { s with heap := (s.heap.push (seqObj "list" #[] 0)).update s.heap.objs.size (Obj.mapSeq (· ++ vs.toArray)) }
  refine wpAny_bind (wpAny_load (get?_update_seq (Heap.get?_push_size _ rfl) _) ?_)
  show wpAny _ _ (pure ((#[] : Array Value) ++ vs.toArray).toList) Q E _
  rw [show ((#[] : Array Value) ++ vs.toArray).toList = vs by simp]
  exact wpAny_pure h
theorem sorted_ordT {l : Addr} {vs : List Value} {ltv : Value → Value → Bool} {Q : Value → Shared → Prop} (O : Swo ltv) (hl : s.heap.IsTuple l vs.toArray) (hz : vs.length ≤ sizeLine)
    (hS : 2 ≤ vs.length → ∀ (h₁ : Heap) (a : Addr), h₁.get? a = some (seqObj "list" vs.toArray 0) → (∀ b o, s.heap.get? b = some o → b ≠ a ∧ h₁.get? b = some o) → SortableO prog w A.in1.in1 { s with heap := h₁ } a vs ltv)
    (h : ∀ out : List Value, Srtd ltv out → Stb ltv out vs → Q (.ref (s.heap.objs.size + 1)) { s with heap := sortedAll s.heap vs out.toArray }) :
    wpAny (model prog w) A (call (.builtin "sorted") [.ref l]) Q E s := by
  refine Calls.call_function_entry kind_sorted plain_sorted entry_sorted (args_sorted1 _) ?_
  unfold Builtin.«sorted»
  refine wpAny_bind (m := checkCount "sorted" 1 1 _) (wpAny_pure ?_)
  refine wpAny_bind (collect_tupT hl ?_ hz)
  refine wpAny_bind (wpAny_newList ?_ hz)
  have hsz : ((s.heap.push (seqObj "list" #[] 0)).update s.heap.objs.size (Obj.mapSeq (· ++ vs.toArray))).objs.size = s.heap.objs.size + 1 := by
    rw [Heap.size_update, size_push']
  have hoL : (((s.heap.push (seqObj "list" #[] 0)).update s.heap.objs.size (Obj.mapSeq (· ++ vs.toArray))).push (seqObj "list" vs.toArray 0)).get? (s.heap.objs.size + 1) = some (seqObj "list" vs.toArray 0) := by
    rw [← hsz]; exact Heap.get?_push_size _ rfl
  have keep : ∀ b o, s.heap.get? b = some o → b ≠ s.heap.objs.size + 1 ∧ (((s.heap.push (seqObj "list" #[] 0)).update s.heap.objs.size (Obj.mapSeq (· ++ vs.toArray))).push (seqObj "list" vs.toArray 0)).get? b = some o := fun b o q => by
    have hlt : b < s.heap.objs.size := Heap.lt_size q
    refine ⟨Nat.ne_of_lt (Nat.lt_succ_of_lt hlt), Heap.get?_push_of_some _ ?_⟩
    rw [Heap.get?_update_ne _ _ _ _ (Nat.ne_of_lt hlt)]
    exact Heap.get?_push_of_some _ q
  show wpAny _ _ _ _ _ { s with heap := ((s.heap.push (seqObj "list" #[] 0)).update s.heap.objs.size (Obj.mapSeq (· ++ vs.toArray))).push (seqObj "list" vs.toArray 0) }
  rw [hsz]
  refine wpAny_bind (wpAny_holding (wpAny_call_entry slot_list_sort ⟨_, hoL, rfl⟩ entry_list_sort (list_sort_ord O hoL hz (fun h2 => hS h2 _ _ hoL keep) fun out hs hb => ⟨_, rfl, ?_⟩) (args_list_sort _)))
  exact wpAny_pure ⟨_, rfl, h out hs hb⟩
end
end SrtO
namespace Toy
open PySem PySem.Spec PyProof.Rows L2
def rSortedIT (K : PySem.W.Frag) : List V → Hp → VK → Prop := fun vs H Q => ∃ (a : Addr) (ns : List Int), vs = [V.ref a] ∧ SqT K H a (ns.map V.int) ∧
  ∀ (ns' : List Int) (p : Addr), ns'.Perm ns → ns'.Pairwise (· ≤ ·) → H p = none → Q (.ref p) (upd H p (.lst (ns'.map V.int)))
theorem cr_sortedIT {X : Cx} : CallR X (.builtin "sorted") (rSortedIT X.K) := by
  intro pins s σ H vs us Q I r h
  obtain ⟨a, ns, rfl, hs, q⟩ := h
  obtain ⟨its, rv, hl, hz⟩ := I.tuple hs
  rw [Vals.ref1 r]
  have hi := rv.ints
  refine SrtO.sorted_ordT SrtO.swo_int (tup_is hl) (by rw [← rv.length]; exact hz) (fun h2 h₁ a' _ _ => SrtO.ints_sortable hi h2) fun out h1 h2 => ?_
  obtain ⟨k1, k2, k3⟩ := SrtO.ints_out hi h1 h2
  obtain ⟨ep, he'⟩ := PyProof.Rows.sortedAll_at s.heap its out.toArray
  have hlen : ((out.map SrtO.iv).map V.int).length ≤ sizeLine := by
    rw [List.length_map, k2.length_eq]
    rw [List.length_map] at hz
    exact hz
  exact ⟨.ref _, upd H (s.heap.objs.size + 1) (.lst ((out.map SrtO.iv).map V.int)), I.laid (t' := s.toks) (fun _ _ => PyProof.Rows.sortedAll_old) (Nat.le_succ _) ⟨hlen, out, ep, vals_of_ints k1, he'⟩, rfl, q _ _ k2 k3 (I.hok.fresh (Nat.le_succ _))⟩
/-! ### xs[lo::step] of a list of an even number of things, by twos -/
def by2 {α : Type} (lo : Nat) (xs : List α) : List α := (List.range (xs.length / 2)).filterMap fun i => xs[lo + 2 * i]?
def tStep (K : PySem.W.Frag) (lo : Nat) (te : TE) : TE := fun σ H Q => te σ H fun x H1 => ∃ a xs, x = .ref a ∧ SqL K H1 a xs ∧ xs.length % 2 = 0 ∧ ∀ p, H1 p = none → Q (.ref p) (upd H1 p (.lst (by2 lo xs)))
theorem by2_len {α : Type} {lo : Nat} (hl : lo ≤ 1) {xs : List α} : (by2 lo xs).length ≤ xs.length := by
  unfold by2
  refine Nat.le_trans (List.length_filterMap_le _ _) ?_
  rw [List.length_range]
  omega
theorem pick2 {lo : Nat} (hl : lo ≤ 1) {its : List Value} (h2 : its.length % 2 = 0) : slicePick its.toArray (some (lo : Int)) none (some 2) = (by2 lo its).toArray := by
  unfold slicePick by2
  congr 1
  have e : sliceBounds (some (lo : Int)) none (some 2) its.toArray.size = (if its.length = 0 then (0 : Int) else (lo : Int), (its.length : Int), 2) := by
    simp only [sliceBounds, Option.getD_some, List.size_toArray]
    have h1 : ¬ ((lo : Int) < 0) := by omega
    simp only [h1, if_false, show (2 : Int) > 0 by decide, if_true]
    split
    · congr 1; omega
    · congr 1; omega
  rw [e]
  dsimp only
  unfold sliceRange
  by_cases h0 : its.length = 0
  · have : its = [] := List.eq_nil_of_length_eq_zero h0
    subst this
    rfl
  · simp only [h0, if_false, show (2 : Int) > 0 by decide, if_true]
    rw [if_pos (by omega : (lo : Int) < (its.length : Int)), show (((its.length : Int) - lo + 2 - 1) / 2).toNat = its.length / 2 by omega, List.filterMap_map]
    refine congrArg (fun f => List.filterMap f (List.range (its.length / 2))) (funext fun k => ?_)
    show its.toArray[((lo : Int) + 2 * (k : Int)).toNat]? = _
    rw [show ((lo : Int) + 2 * (k : Int)).toNat = lo + 2 * k by omega]
    simp
theorem Vals.by2 {lo : Nat} {xs : List V} {us : List Value} (r : Vals xs us) : Vals (by2 lo xs) (by2 lo us) := by
  unfold Toy.by2
  rw [r.length]
  generalize List.range (us.length / 2) = l
  induction l with
  | nil => exact .nil
  | cons i l ih =>
    cases hx : xs[lo + 2 * i]? with
    | none =>
      have hu : us[lo + 2 * i]? = none := by
        rw [List.getElem?_eq_none_iff] at hx ⊢
        rw [← r.length]; exact hx
      rw [List.filterMap_cons, List.filterMap_cons, hx, hu]
      exact ih
    | some x =>
      obtain ⟨u, hu, ru⟩ := r.get hx
      rw [List.filterMap_cons, List.filterMap_cons, hx, hu]
      exact .cons ru ih
theorem pe_step2 {X : Cx} {e : Expr} {te : TE} {lo : Nat} (hlo : lo ≤ 1) {i : Int} (hi : i = (lo : Int)) {k j : Nat} {p1 p2 p3 pos : Pos} (he : PE X e te) : PE X (.Subscript e (.Slice (some (.Constant (.int i) k p1)) none (some (.Constant (.int 2) j p2)) p3) pos) (tStep X.K lo te) := by
  subst hi
  refine ⟨fun pins s σ H Q I h => ?_⟩
  refine Subscript_ (thn (he.run pins s σ H _ I h) fun v s1 ⟨x, H1, I1, r1, q1⟩ => ?_)
  obtain ⟨a, xs, ex, hx, heven, q⟩ := q1
  subst ex
  cases r1
  have hlw : PO X (some (.Constant (.int (lo : Int)) k p1)) (tPart (tC (.int (lo : Int)))) := po_some pe_int
  have hst : PO X (some (.Constant (.int 2) j p2)) (tPart (tC (.int 2))) := po_some pe_int
  refine wpAny_Slice (thn (hlw.run pins s1 σ H1 (fun o H2 => o = some (lo : Int) ∧ H2 = H1) I1 ⟨_, rfl, rfl, rfl⟩) fun vl s2 ⟨l, H2, I2, pl, el, e2⟩ => ?_)
  subst el e2
  refine thn (po_none.run pins s2 σ H2 (fun o H3 => o = none ∧ H3 = H2) I2 ⟨rfl, rfl⟩) fun vu s3 ⟨u, H3, I3, pu, eu, e3⟩ => ?_
  subst eu e3
  refine thn (hst.run pins s3 σ H3 (fun o H4 => o = some 2 ∧ H4 = H3) I3 ⟨2, rfl, rfl, rfl⟩) fun vs s4 ⟨o, H4, I4, ps, eo, e4⟩ => ?_
  subst eo e4
  have I5 : Inv X pins σ H4 { s4 with heap := s4.heap.push { cls := .type "slice", data := .fields #[vl, vu, vs] } } := I4.kept (t' := s4.toks) fun b ob q => Heap.get?_push_of_some _ q
  obtain ⟨its, r, ht, hz⟩ := I5.list hx
  have hlen := r.length
  show wpAny (model X.prog X.w) X.A (subscriptTail e (.Slice (some (.Constant (.int (lo : Int)) k p1)) none (some (.Constant (.int 2) j p2)) p3) (.ref a) (.ref s4.heap.objs.size)) (EP X pins σ Q) X.xe { s4 with heap := s4.heap.push { cls := .type "slice", data := .fields #[vl, vu, vs] } }
  refine tail_any (ops := [.ref a, .ref s4.heap.objs.size]) ht.isList.typeIs (PySem.slot_list_getitem.lookup) ?_ (by with_unfolding_all rfl)
  refine wpAny_getItem_list_slice ht.isList (Heap.IsSliceOf.new _ vl vu vs) pl pu ps (by decide) ?_ (by rw [List.size_toArray]; omega)
  rw [pick2 hlo (by omega)]
  refine ⟨.ref _, _, I5.laid (t' := s4.toks) (o := .lst (by2 lo xs)) (fun b ob q => Heap.get?_push_of_some _ q) (Nat.le_refl _) ?_, rfl, q _ (I5.hok.fresh (Nat.le_refl _))⟩
  exact ⟨Nat.le_trans (by2_len hlo) hz, _, 0, Vals.by2 r, Heap.get?_push_size _ rfl⟩
/-! ### [.. for i in range(lo, hi, c)] -/
theorem lc_rangeC {lo c : Int} {n : Nat} {g : TG} {tt : TT} {te : TE} {vs : List Nat} {σ : L2.St} {H1 : Hp} {D : Addr} {Qd : Hp → Prop} (Pv : Nat → Hp → Prop) (h0 : Pv 0 (upd H1 D (.lst [])))
    (hs : ∀ (i : Nat) H, i < n → Pv i H → g (.int (lo + (i : Nat) * c)) (wipe σ vs) H fun σ2 H2 => wipe σ2 vs = wipe σ vs ∧ tt σ2 H2 fun b H3 =>
      if b = true then te σ2 H3 fun y H4 => ∃ acc, H4 D = some (.lst acc) ∧ acc.length < sizeLine ∧ Pv (i + 1) (upd H4 D (.lst (acc ++ [y]))) else Pv (i + 1) H3) (hd : ∀ H, Pv n H → Qd H) :
    ∃ W : Nat → Nat → Hp → Prop, (∃ m, W 0 m (upd H1 D (.lst []))) ∧ ∀ i m H, W i m H →
      ((Itc lo c n).stop i H ∧ Qd H) ∨ ((Itc lo c n).go i H ∧ ∃ Nx : Hp → Prop, (∀ H', Nx H' → ∃ m', m' < m ∧ W (i + 1) m' H') ∧ ∀ x H', (Itc lo c n).yld i H x H' → g x (wipe σ vs) H' fun σ2 H2 => wipe σ2 vs = wipe σ vs ∧ tt σ2 H2 fun b H3 =>
        if b = true then te σ2 H3 fun y H4 => ∃ acc, H4 D = some (.lst acc) ∧ acc.length < sizeLine ∧ Nx (upd H4 D (.lst (acc ++ [y]))) else Nx H3) := by
  refine lc_it (I := Itc lo c n) (n := n) Pv h0 (fun i H hi p => hi) (fun H p => Nat.le_refl _) ?_ hd
  rintro i x H H' hi p ⟨e, y⟩
  subst e y
  exact hs i _ hi p
end Toy
/-! ### range(n) as a thing, x not in it -/
namespace Toy
open PySem PySem.Spec PyProof.Rows L2
def rRg1 : List V → Hp → VK → Prop := fun vs H Q => ∃ j, vs = [V.int j] ∧ ∀ p, H p = none → Q (.ref p) (upd H p (.rng 0 j))
theorem cr_rg1 {X : Cx} : CallR X (.type "range") rRg1 := by
  intro pins s σ H vs us Q I r h
  obtain ⟨j, rfl, q⟩ := h
  obtain ⟨u1, rfl, ri⟩ := vals1 r
  obtain ⟨t, rfl⟩ := ri
  refine call_range_1 ⟨.ref s.heap.objs.size, upd H s.heap.objs.size (.rng 0 j), I.laid (fun b o e => Heap.get?_push_of_some _ e) (Nat.le_refl _) ?_, rfl, q _ (I.hok.fresh (Nat.le_refl _))⟩
  exact ⟨_, _, _, Heap.get?_push_size _ rfl⟩
def rNotRg : R2 := fun x y H Q => ∃ i a lo hi, x = V.int i ∧ y = V.ref a ∧ H a = some (.rng lo hi) ∧ Q (.bl (!decide (lo ≤ i ∧ i < hi))) H
theorem op_notin_rg {X : Cx} : OpR X (compareOp .NotIn) rNotRg := by
  intro pins s σ H x y v u Q I rx ry h
  obtain ⟨i, a, lo, hi, rfl, rfl, ha, q⟩ := h
  obtain ⟨k, rfl⟩ := rx
  obtain rfl : u = Value.ref a := ry
  obtain ⟨t1, t2, t3, ho⟩ := I.hok a _ ha
  show wpAny _ _ (do return Value.bool (!(← contains (Value.ref a) (Value.int i k)))) _ _ s
  refine wpAny_bind (wpAny_contains_slot (T := "range") ⟨_, ho, rfl⟩ F.slot_range_contains (call_meets F.slot_range_contains ⟨_, ho, rfl⟩ F.entry_range_contains (F.args_range_contains_2 _ _) (q_contains a lo hi i t1 t2 t3 k)
    ⟨ho, wpAny_truthy_bool (wpAny_pure ⟨.bl _, H, I, rfl, ?_⟩)⟩))
  rw [place1]
  exact q
/-! ### lists of things beside [] (wants odd0) -/
def rNeNil (K : PySem.W.Frag) : R2 := fun x y H Q => ∃ a b ys, x = .ref a ∧ y = .ref b ∧ SqL K H a ys ∧ SqL K H b [] ∧ Q (.bl (!ys.isEmpty)) H
def rEqNil (K : PySem.W.Frag) : R2 := fun x y H Q => ∃ a b ys, x = .ref a ∧ y = .ref b ∧ SqL K H a ys ∧ SqL K H b [] ∧ Q (.bl ys.isEmpty) H
theorem op_neNil {X : Cx} {K : PySem.W.Frag} (hu : X.A.units + 64 < cLine) (eK : X.K = K := by rfl) : OpR X (compareOp .NotEq) (rNeNil K) := by
  cases eK
  intro pins s σ H x y v u Q I rx ry h
  obtain ⟨a, b, ys, rfl, rfl, ha, hb, q⟩ := h
  cases rx
  cases ry
  obtain ⟨its, rv, hl, _⟩ := I.list ha
  obtain ⟨its2, rv2, hl2, _⟩ := I.list hb
  cases rv2
  cases rv with
  | nil => exact SeqAt.RcNeAt.lists (e := fun _ => true) hl.isList hl2.isList rfl (by omega) (fun j h1 h2 => absurd h1 (Nat.not_lt_zero _)) _ _ _ _ ⟨.bl _, H, I, rfl, q⟩
  | cons r rs => exact SeqAt.RcNeAt.lists_lengths hl.isList hl2.isList (by simp) (by omega) _ _ _ _ ⟨.bl _, H, I, rfl, q⟩
theorem op_eqNil {X : Cx} {K : PySem.W.Frag} (hu : X.A.units + 64 < cLine) (eK : X.K = K := by rfl) : OpR X (compareOp .Eq) (rEqNil K) := by
  cases eK
  intro pins s σ H x y v u Q I rx ry h
  obtain ⟨a, b, ys, rfl, rfl, ha, hb, q⟩ := h
  cases rx
  cases ry
  obtain ⟨its, rv, hl, _⟩ := I.list ha
  obtain ⟨its2, rv2, hl2, _⟩ := I.list hb
  cases rv2
  cases rv with
  | nil => exact SeqAt.RcAt.lists (e := fun _ => true) hl.isList hl2.isList rfl (by omega) (fun j h1 h2 => absurd h1 (Nat.not_lt_zero _)) _ _ _ _ ⟨.bl _, H, I, rfl, q⟩
  | cons r rs => exact SeqAt.RcAt.lists_lengths hl.isList hl2.isList (by simp) (by omega) _ _ _ _ ⟨.bl _, H, I, rfl, q⟩
end Toy
/-! ### x in xs, x and xs data of any depth (mine): SeqAt.in_tuple_reads and its like as an operator -/
namespace Toy
open PySem PySem.Spec PyProof.Rows L2 HT
def inD (xs : List PyData) (d : PyData) : Bool := xs.any fun y => PyData.eqv y d
def rInD (K : PySem.W.Frag) (neg : Bool) : R2 := fun x y H Q => ∃ (d : PyData) (xs : List PyData), Dp K H x d ∧ (Dp K H y (.tuple xs) ∨ Dp K H y (.list xs)) ∧ d.canLay0 = true ∧ PyData.canLayAll0 xs = true ∧ d.depth ≤ 60 ∧ Q (.bl (if neg then !inD xs d else inD xs d)) H
theorem op_inD {X : Cx} (hu : X.A.units + 64 < cLine) : OpR X (compareOp .In) (rInD X.K false) := by
  intro pins s σ H x y v u Q I rx ry h
  obtain ⟨d, xs, hd, he, ld, lx, dd, q⟩ := h
  obtain ⟨as, r1⟩ := Dp.reads I d x v hd rx
  have hr : X.A.units + 1 + min (PyData.depthAll xs) d.depth < cLine := by omega
  rcases he with he | he
  · obtain ⟨bs, r2⟩ := Dp.reads I _ y u he ry
    exact SeqAt.in_tuple_reads r2 r1 lx ld hr ⟨.bl _, H, I, rfl, q⟩
  · obtain ⟨bs, r2⟩ := Dp.reads I _ y u he ry
    exact SeqAt.in_list_reads r2 r1 lx ld hr ⟨.bl _, H, I, rfl, q⟩
theorem op_notInD {X : Cx} (hu : X.A.units + 64 < cLine) : OpR X (compareOp .NotIn) (rInD X.K true) := by
  intro pins s σ H x y v u Q I rx ry h
  obtain ⟨d, xs, hd, he, ld, lx, dd, q⟩ := h
  obtain ⟨as, r1⟩ := Dp.reads I d x v hd rx
  have hr : X.A.units + 1 + min (PyData.depthAll xs) d.depth < cLine := by omega
  rcases he with he | he
  · obtain ⟨bs, r2⟩ := Dp.reads I _ y u he ry
    exact SeqAt.notIn_tuple_reads r2 r1 lx ld hr ⟨.bl _, H, I, rfl, q⟩
  · obtain ⟨bs, r2⟩ := Dp.reads I _ y u he ry
    exact SeqAt.notIn_list_reads r2 r1 lx ld hr ⟨.bl _, H, I, rfl, q⟩
end Toy
namespace PySem
/-! ### a, b, .. = a list -/
section
open PyProof.Rows
variable {prog : Program} {w : World} {A : Around} {E : Value → Shared → Prop} {s : Shared}
theorem draw_listU {it t : Addr} {items : Array Value} (hne : t ≠ it) : ∀ (n i : Nat) (s : Shared) (Q : List Value → Shared → Prop), s.heap.IsListIter it t i → s.heap.IsList t items → i + n ≤ items.size →
    (∀ h', h'.IsListIter it t (i + n) → Heap.SameBut it s.heap h' → Q ((items.toList.drop i).take n) { s with heap := h' }) → wpAny (model prog w) A (draw (.ref it) n) Q E s
  | 0, i, s, Q, hit, _, _, hQ => by
    show wpAny _ _ (pure []) Q E s
    exact wpAny_pure (by simpa using hQ s.heap hit (Heap.SameBut.refl ..))
  | n + 1, i, s, Q, hit, ht, hle, hQ => by
    have hlt : i < items.size := by omega
    show wpAny _ _ (pyNext (.ref it) >>= _) Q E s
    refine wpAny_bind (wpAny_pyNext_list_item hit ht (x := items[i]) (by simp [hlt]) fun h₁ hit₁ hs₁ => ?_)
    refine wpAny_bind (wpAny_holding (draw_listU hne n (i + 1) _ _ hit₁ (ht.extBut hs₁.extBut hne) (by omega) fun h₂ hit₂ hs₂ => wpAny_pure ?_))
    have hd : items.toList.drop i = items[i] :: items.toList.drop (i + 1) := by simp [List.drop_eq_getElem_cons, hlt]
    have := hQ h₂ (by rw [show i + (n + 1) = i + 1 + n by omega]; exact hit₂) (hs₁.trans hs₂)
    rw [hd, List.take_succ_cons] at this
    exact this
theorem unpackItems_listU {t : Addr} {items : Array Value} {Q : List Value → Shared → Prop} (hh : A.handled = none) (ht : s.heap.IsList t items)
    (hQ : ∀ h', Heap.ExtBut s.heap.objs.size s.heap h' → Q items.toList { s with heap := h' }) : wpAny (model prog w) A (unpackItems (.ref t) items.size none) Q E s := by
  have hlt : t ≠ s.heap.objs.size := by obtain ⟨o, ho, _⟩ := ht; exact Nat.ne_of_lt (Heap.lt_size ho)
  unfold unpackItems
  refine wpAny_bind ?_
  · unfold notIterableAtAll
    refine wpAny_bind (wpAny_specialOf ht.typeIs slot_list_iter.lookup ?_)
    refine wpAny_pure ?_
    simp only [Bool.false_eq_true, if_false]
    refine wpAny_bind (wpAny_holding (wpAny_pyIter_list ht ?_))
    refine wpAny_bind (wpAny_holding (draw_listU hlt items.size 0 _ _ ⟨_, Heap.get?_push_size _ rfl, rfl, rfl⟩ (ht.push _) (by omega) fun h₁ hit₁ hs₁ => ?_))
    have hall : List.take items.size (List.drop 0 items.toList) = items.toList := by
      rw [List.drop_zero]; exact List.take_of_length_le (by simp)
    rw [hall]
    rw [if_neg (by simp)]
    have ht₁ : h₁.IsList t items := (ht.push _).extBut hs₁.extBut hlt
    refine wpAny_bind (wpAny_holding (wpAny_pyNext_list_end hh hit₁ ht₁ (by simp) fun h₂ he₂ => ?_))
    simp only [Option.isSome_none, Bool.false_eq_true, if_false]
    refine wpAny_pure (hQ h₂ fun b o hb e => he₂ b o hb (hs₁.extBut b o hb (Heap.get?_push_of_some _ e)))
theorem assign_Tuple_listU {env : Env} {elts : List Expr} {x1} {pos : Pos} {t : Addr} {items : Array Value} {Q : Unit → Shared → Prop} (hh : A.handled = none) (ht : s.heap.IsList t items)
    (hn : (assignEach elts env).length = items.size) (hstar : (assignEach elts env).findIdx? (·.1) = none)
    (h : ∀ h', Heap.ExtBut s.heap.objs.size s.heap h' → wpAny (model prog w) A (assignInOrder ((assignEach elts env).map (·.2)) items.toList) Q E { s with heap := h' }) :
    wpAny (model prog w) A (assign (.Tuple elts x1 pos) env (.ref t)) Q E s := by
  rw [assign_Tuple]
  refine wpAny_bind (wpAny_standAt ?_)
  unfold unpack
  rw [hn, hstar]
  exact wpAny_bind (wpAny_holding (unpackItems_listU hh ht h))
end
end PySem
namespace Toy
open PySem PySem.Spec PyProof.Rows L2
/-- (a, b, ..) = a list of that length -/
def gLstU (K : PySem.W.Frag) (n : Nat) (t : TGs) : TG := fun v σ H Q => ∃ a xs, v = .ref a ∧ SqL K H a xs ∧ xs.length = n ∧ t xs σ H Q
theorem pg_lstU {X : Cx} {pos : Pos} {es : List Expr} {k : Nat} {t : TGs} {n : Nat} (hc : X.calm = true) (h : PGs X es t)
    (hn : (assignEach es X.env).length = n := by rfl) (hst : (assignEach es X.env).findIdx? (·.1) = none := by rfl) : PG X (.Tuple es k pos) (gLstU X.K n t) := by
  refine ⟨fun pins s σ H v u Q I r hw => ?_⟩
  obtain ⟨a, xs, e1, hq, hl, hw⟩ := hw
  subst e1
  cases r
  obtain ⟨its, rv, ht, hz⟩ := I.list hq
  refine assign_Tuple_listU (I.ok.hd hc) ht.isList (by simp [hn, ← hl, rv.length]) hst fun h' hx => ?_
  have I1 : Inv X pins σ H { s with heap := h' } := I.kept (t' := s.toks) fun b o e => hx b o (Nat.ne_of_lt (Heap.lt_size e)) e
  exact h.run pins _ σ H xs _ Q I1 (by simpa using rv) hw
theorem nd_uniq {α β : Type} {f : α → β} : ∀ {l : List α} {x y : α}, (l.map f).Nodup → x ∈ l → y ∈ l → f x = f y → x = y
  | a :: l, x, y, nd, hx, hy, e => by
    rw [List.map_cons, List.nodup_cons] at nd
    rcases List.mem_cons.mp hx with h1 | h1
    · rcases List.mem_cons.mp hy with h2 | h2
      · rw [h1, h2]
      · exact absurd (List.mem_map.mpr ⟨y, h2, by rw [← e, h1]⟩) nd.1
    · rcases List.mem_cons.mp hy with h2 | h2
      · exact absurd (List.mem_map.mpr ⟨x, h1, by rw [e, h2]⟩) nd.1
      · exact nd_uniq nd.2 h1 h2 e
theorem perm_back {α β : Type} {f : α → β} {us : List β} {ls : List α} (h : us.Perm (ls.map f)) : ∃ ls' : List α, ls'.Perm ls ∧ us = ls'.map f := by
  obtain ⟨l, h1, h2⟩ : ∃ l : List α, l.Perm ls ∧ l.map f = us := by
    generalize e : ls.map f = ms at h
    induction h generalizing ls with
    | nil =>
      cases ls with
      | nil => exact ⟨[], .refl _, rfl⟩
      | cons => cases e
    | cons x p ih =>
      cases ls with
      | nil => cases e
      | cons y r =>
        injection e with e1 e2
        obtain ⟨l, h1, h2⟩ := ih e2
        exact ⟨y :: l, h1.cons y, by rw [List.map_cons, e1, h2]⟩
    | swap x y p =>
      match ls, e with
      | a :: b :: r, e =>
        injection e with e1 e2
        injection e2 with e2 e3
        exact ⟨b :: a :: r, .swap _ _ _, by rw [List.map_cons, List.map_cons, e1, e2, e3]⟩
    | trans p q ih1 ih2 =>
      obtain ⟨l, h1, h2⟩ := ih2 e
      obtain ⟨l2, h3, h4⟩ := ih1 h2
      exact ⟨l2, h3.trans h1, h4⟩
  exact ⟨l, h1, h2.symm⟩
end Toy
/-! ### sorted(xs), xs a list of tuples that begin with d unlike ints each (mine; negative ones too; what follows them is never looked at) -/
namespace PS
open PySem PyProof.Rows Srt TS
def Bs (B : Int) (ns : List Int) : Prop := ∀ m ∈ ns, -B ≤ m ∧ m < B
def cd (B : Int) (ns : List Int) : Int := code (2 * B) (ns.map fun m => m + B)
theorem Bs.bd {B : Int} {ns : List Int} (h : Bs B ns) : Bd (2 * B) (ns.map fun m => m + B) := fun m hm => by
  obtain ⟨x, hx, rfl⟩ := List.mem_map.mp hm
  have := h x hx
  omega
theorem cd_head {B x y : Int} {ns ms : List Int} (hl : ns.length = ms.length) (h1 : Bs B ns) (h2 : Bs B ms) (h : x < y) : cd B (x :: ns) < cd B (y :: ms) :=
  code_lt (B := 2 * B) (d := x + B) (e := y + B) (r := ns.map fun m => m + B) (q := ms.map fun m => m + B) (by rw [List.length_map, List.length_map, hl]) h1.bd h2.bd (by omega)
theorem cd_tail {B x : Int} {ns ms : List Int} (hl : ns.length = ms.length) : cd B (x :: ns) < cd B (x :: ms) ↔ cd B ns < cd B ms :=
  code_same (B := 2 * B) (d := x + B) (r := ns.map fun m => m + B) (q := ms.map fun m => m + B) (by rw [List.length_map, List.length_map, hl])
/-- unlike rows of ints have unlike codes, in order -/
theorem cd_le {B : Int} : ∀ {ns ms : List Int}, ns.length = ms.length → Bs B ns → Bs B ms → cd B ns ≤ cd B ms → ns = ms ∨ cd B ns < cd B ms
  | [], [], _, _, _, _ => .inl rfl
  | x :: ns, y :: ms, hl, h1, h2, h => by
    have hl' : ns.length = ms.length := Nat.succ.inj hl
    have b1 : Bs B ns := fun m hm => h1 m (List.mem_cons_of_mem _ hm)
    have b2 : Bs B ms := fun m hm => h2 m (List.mem_cons_of_mem _ hm)
    rcases Int.lt_trichotomy x y with c | c | c
    · exact .inr (cd_head hl' b1 b2 c)
    · subst c
      have h3 : cd B ns ≤ cd B ms := by
        have := cd_tail (x := x) (B := B) hl'.symm
        omega
      rcases cd_le hl' b1 b2 h3 with e | e
      · exact .inl (by rw [e])
      · exact .inr ((cd_tail hl').mpr e)
    · have := cd_head hl'.symm b2 b1 c
      omega
/-- the value is a tuple that begins with these ints, n things in all -/
def PreI (h : Heap) (v : Value) (ns : List Int) (n : Nat) : Prop := ∃ (a : Addr) (xs : Array Value) (ys zs : List Value), v = .ref a ∧ IsTup h a xs ∧ xs.toList = ys ++ zs ∧ IntsAre ys ns ∧ xs.size = n
def PreOk (h : Heap) (d n : Nat) (B : Int) (kf : Value → List Int) (vs : List Value) : Prop := ∀ v ∈ vs, PreI h v (kf v) n ∧ (kf v).length = d ∧ Bs B (kf v)
theorem PreI.keeps {h h' : Heap} {v : Value} {ns : List Int} {n : Nat} (x : PreI h v ns n) (k : ∀ b o, h.get? b = some o → o.cls = .type "tuple" → h'.get? b = some o) : PreI h' v ns n := by
  obtain ⟨a, xs, ys, zs, e, ⟨o, ho, hc, hd⟩, r⟩ := x
  exact ⟨a, xs, ys, zs, e, ⟨o, k _ _ ho hc, hc, hd⟩, r⟩
theorem PreOk.keeps {h h' : Heap} {d n : Nat} {B : Int} {kf : Value → List Int} {vs : List Value} (x : PreOk h d n B kf vs) (k : ∀ b o, h.get? b = some o → o.cls = .type "tuple" → h'.get? b = some o) : PreOk h' d n B kf vs := fun v hv =>
  ⟨(x v hv).1.keeps k, (x v hv).2⟩
theorem pre_firsts {h : Heap} {d n : Nat} {B : Int} {kf : Value → List Int} (hd : 1 ≤ d) : ∀ vs : List Value, PreOk h d n B kf vs → ∃ fs, PySem.W.KatTups h vs fs ∧ fs.length = vs.length ∧ ∀ f ∈ fs, ∃ i t, f = Value.int i t
  | [], _ => ⟨[], .nil, rfl, fun f hf => (nomatch hf)⟩
  | v :: vs, x => by
    obtain ⟨fs, k, hl, hi⟩ := pre_firsts hd vs fun u hu => x u (List.mem_cons_of_mem _ hu)
    obtain ⟨⟨a, xs, ys, zs, ea, ⟨o, ho, hc, m, hdt⟩, ex, i, _⟩, hn, _⟩ := x v List.mem_cons_self
    have hy : ys ≠ [] := fun z => by
      rw [z] at i
      have l := i.length
      rw [hn, List.length_nil] at l
      omega
    obtain ⟨y, yr, rfl⟩ := List.exists_cons_of_ne_nil hy
    obtain ⟨j, t, hj⟩ := i.all y List.mem_cons_self
    have e0 : xs[0]? = some y := by
      rw [← Array.getElem?_toList, ex] <;> rfl
    rw [ea]
    refine ⟨y :: fs, .cons ho hc hdt e0 k, by rw [List.length_cons, List.length_cons, hl], fun f hf => ?_⟩
    rcases List.mem_cons.mp hf with e | e
    · exact ⟨j, t, e.trans hj⟩
    · exact hi f e
section
variable {prog : Program} {w : World} {A : Around} {E : Value → Shared → Prop} {s : Shared}
theorem eq_self {v : Value} {Q : Bool → Shared → Prop} (h : Q true s) : wpAny (model prog w) A (eqBool v v) Q E s := by
  unfold eqBool
  refine wpAny_holding ?_
  rw [if_pos (beq_self_eq_true v)]
  exact wpAny_bind (wpAny_rule (wpAny_pure h))
theorem lex_self {b : Bool} {Q : Bool → Shared → Prop} (h : Q false s) : ∀ (xs : List Value) (i : Nat), PySem.W.KatLex prog w A b false Q (xs.zip xs) i s
  | [], _ => PySem.W.kat_nil h
  | x :: xs, i => PySem.W.kat_cons (eq_self (PySem.W.kat_yes (lex_self h xs (i + 1))))
theorem lex_pre {B : Int} {b : Bool} {Q : Bool → Shared → Prop} {us vs : List Value} : ∀ {xs ys : List Value} {ns ms : List Int} (i : Nat), IntsAre xs ns → IntsAre ys ms → ns.length = ms.length → Bs B ns → Bs B ms → ns ≠ ms → Q (decide (cd B ns < cd B ms)) s → PySem.W.KatLex prog w A b false Q ((xs ++ us).zip (ys ++ vs)) i s := by
  intro xs ys ns ms i hx
  induction hx generalizing ys ms i with
  | nil =>
    intro hy hl _ _ hne _
    cases hy with
    | nil => exact absurd rfl hne
    | cons _ => cases hl
  | @cons p t xs ns hx ih =>
    intro hy hl h1 h2 hne h
    cases hy with
    | nil => cases hl
    | @cons q u ys ms hy =>
      have hl' : ns.length = ms.length := Nat.succ.inj hl
      have b1 : Bs B ns := fun m hm => h1 m (List.mem_cons_of_mem _ hm)
      have b2 : Bs B ms := fun m hm => h2 m (List.mem_cons_of_mem _ hm)
      show PySem.W.KatLex prog w A b false Q ((Value.int p t, Value.int q u) :: (xs ++ us).zip (ys ++ vs)) i s
      refine PySem.W.kat_cons (wpAny_eqBool_int ?_)
      rcases Int.lt_trichotomy p q with c | c | c
      · rw [show (p == q) = false from beq_eq_false_iff_ne.mpr (by omega)]
        refine PySem.W.kat_no (oneLt_ints _ ?_)
        rw [decide_eq_true (cd_head hl' b1 b2 c)] at h
        rw [decide_eq_true c]
        exact h
      · subst c
        rw [beq_self_eq_true]
        refine PySem.W.kat_yes (ih (i + 1) hy hl' b1 b2 (fun z => hne (by rw [z])) ?_)
        have e : decide (cd B (p :: ns) < cd B (p :: ms)) = decide (cd B ns < cd B ms) := decide_eq_decide.mpr (cd_tail hl')
        rw [e] at h
        exact h
      · rw [show (p == q) = false from beq_eq_false_iff_ne.mpr (by omega)]
        refine PySem.W.kat_no (oneLt_ints _ ?_)
        have n1 : ¬ cd B (p :: ns) < cd B (q :: ms) := by
          have := cd_head hl'.symm b2 b1 c
          omega
        rw [decide_eq_false n1] at h
        rw [decide_eq_false (by omega)]
        exact h
theorem pre_kind {d n : Nat} {B : Int} {kf : Value → List Int} {vs : List Value} (hd : 1 ≤ d) (h2 : 2 ≤ vs.length) (x : PreOk s.heap d n B kf vs) (inj : ∀ u ∈ vs, ∀ v ∈ vs, kf u = kf v → u = v) (Q : SortKind → Shared → Prop)
    (h : ∀ κ, Cmp prog w A s κ (pairsOf vs) (fun v => cd B (kf v)) → Q κ s) : wpAny (model prog w) A (keyKind' vs.toArray) Q E s := by
  obtain ⟨fs, k, hl, hi⟩ := pre_firsts hd vs x
  refine PySem.W.kat_kind (T := Value.type "int") k (by omega) (fun f hf => ?_) rfl (h _ ?_)
  · obtain ⟨i, t, rfl⟩ := hi f hf
    exact PySem.W.Looks.of_pure rfl
  · intro p q hp hq Q' E' hQ
    rw [pairsOf_toList] at hp hq
    have mp := (mem_zip_self hp).2
    have mq := (mem_zip_self hq).2
    obtain ⟨⟨a, xs, ys, zs, e1, ⟨o, ho, hc, m, hdt⟩, ex, i, sx⟩, lp, bp⟩ := x _ mp
    obtain ⟨⟨a', xs', ys', zs', e2, ⟨o', ho', hc', m', hdt'⟩, ex', i', sx'⟩, lq, bq⟩ := x _ mq
    have hQ : Q' (decide (cd B (kf p.1) < cd B (kf q.1))) s := hQ
    have fin : PySem.W.KatLex prog w A ((Value.type "int") != Value.type "tuple") false Q' (xs.toList.zip xs'.toList) 0 s := by
      by_cases c : kf p.1 = kf q.1
      · have e3 : p.1 = q.1 := inj _ mp _ mq c
        rw [e1, e2] at e3
        have ea : a = a' := by injection e3
        subst ea
        rw [ho] at ho'
        cases ho'
        rw [hdt] at hdt'
        injection hdt' with g1 g2
        subst g1
        rw [c, decide_eq_false (Int.lt_irrefl _)] at hQ
        exact lex_self hQ _ _
      · rw [ex, ex']
        exact lex_pre 0 i i' (by omega) bp bq c hQ
    rw [e1, e2]
    refine PySem.W.kat_lt ho hdt ho' hdt' ?_
    rw [show decide (xs.size < xs'.size) = false from decide_eq_false (by omega)]
    exact fin
theorem pre_sorted {l : Addr} {vs : List Value} {d n : Nat} {B : Int} {kf : Value → List Int} {Q : Value → Shared → Prop} (hl : s.heap.IsList l vs.toArray) (h64 : vs.length < 64) (hd : 1 ≤ d) (x : PreOk s.heap d n B kf vs) (inj : ∀ u ∈ vs, ∀ v ∈ vs, kf u = kf v → u = v)
    (h : ∀ out : Array Value, out.toList.Perm vs → out.toList.Pairwise (fun u v => cd B (kf u) ≤ cd B (kf v)) → Q (.ref (s.heap.objs.size + 1)) { s with heap := sortedAll s.heap vs out }) :
    wpAny (model prog w) A (call (.builtin "sorted") [.ref l]) Q E s := by
  have z9 : vs.length ≤ sizeLine := by rw [sizeLine_eq]; omega
  refine Calls.call_function_entry kind_sorted plain_sorted entry_sorted (args_sorted1 _) ?_
  unfold Builtin.«sorted»
  refine wpAny_bind (m := checkCount "sorted" 1 1 _) (wpAny_pure ?_)
  refine wpAny_bind (collect_list hl ?_ z9)
  refine wpAny_bind (wpAny_newList ?_ z9)
  obtain ⟨g, eg⟩ : ∃ g : Heap, g = (s.heap.push (seqObj "list" #[] 0)).update s.heap.objs.size (Obj.mapSeq (· ++ vs.toArray)) := ⟨_, rfl⟩
  have sg : g.objs.size = s.heap.objs.size + 1 := by rw [eg, Heap.size_update, size_push']
  have lay : (g.push (seqObj "list" vs.toArray 0)).get? (s.heap.objs.size + 1) = some (seqObj "list" vs.toArray 0) := by
    rw [← sg]; exact Heap.get?_push_size _ rfl
  have kp : ∀ b o, s.heap.get? b = some o → o.cls = .type "tuple" → (g.push (seqObj "list" vs.toArray 0)).get? b = some o := fun b o q _ => by
    have lt := Heap.lt_size q
    refine Heap.get?_push_of_some _ ?_
    rw [eg, Heap.get?_update_ne _ _ _ _ (Nat.ne_of_lt lt)]
    exact Heap.get?_push_of_some _ q
  have e9 : sortedHeap (g.push (seqObj "list" vs.toArray 0)) (s.heap.objs.size + 1) vs = fun out => sortedAll s.heap vs out := by rw [eg]; rfl
  show wpAny _ _ _ _ _ { s with heap := ((s.heap.push (seqObj "list" #[] 0)).update s.heap.objs.size (Obj.mapSeq (· ++ vs.toArray))).push (seqObj "list" vs.toArray 0) }
  rw [← eg, sg]
  refine wpAny_bind (wpAny_holding (wpAny_call_entry slot_list_sort ⟨_, lay, rfl⟩ entry_list_sort
    (SK.plain_sort (s := { s with heap := g.push (seqObj "list" vs.toArray 0) }) (r := fun v => cd B (kf v)) lay h64 (fun h2 Qk hQk => ?_) fun ps out h1 h2 h3 => ⟨_, rfl, ?_⟩) (args_list_sort _)))
  · refine pre_kind (s := { s with heap := midHeap (g.push (seqObj "list" vs.toArray 0)) (s.heap.objs.size + 1) vs }) hd h2 ((x.keeps kp).keeps fun b o e hc => midHeap_old (fun z => ?_) e) inj Qk hQk
    rw [z, lay] at e
    cases e
    injection hc with hc
    exact absurd hc (by decide)
  · obtain ⟨o1, o2⟩ := out_rank (r := fun v => cd B (kf v)) h1 h2 h3
    have := h out o1 o2
    refine wpAny_pure ⟨_, rfl, ?_⟩
    rw [← congrFun e9 out] at this
    exact this
end
end PS
namespace Toy
open PySem PySem.Spec PyProof.Rows L2
abbrev Prw := Addr × List Int × List V
def rSortP (K : PySem.W.Frag) : List V → Hp → VK → Prop := fun vs H Q => ∃ (a : Addr) (ls : List Prw) (d n : Nat) (B : Int), vs = [V.ref a] ∧ SqL K H a (ls.map fun x => V.ref x.1) ∧ ls.length < 64 ∧ (1 ≤ d ∧ (ls.map fun x => x.2.1).Nodup ∧ ∀ x ∈ ls, SqT K H x.1 (x.2.1.map V.int ++ x.2.2) ∧ x.2.1.length = d ∧ (x.2.1.length + x.2.2.length = n) ∧ PS.Bs B x.2.1) ∧
  ∀ (ls' : List Prw) (p : Addr), ls'.Perm ls → ls'.Pairwise (fun x y => PS.cd B x.2.1 ≤ PS.cd B y.2.1) → H p = none → Q (.ref p) (upd H p (.lst (ls'.map fun x => V.ref x.1)))
def kfP (ls : List Prw) : Value → List Int
  | .ref a => ((ls.find? fun x => x.1 == a).map fun x => x.2.1).getD []
  | _ => []
theorem vals_cut : ∀ {ns : List Int} {ws : List V} {us : List Value}, Vals (ns.map V.int ++ ws) us → ∃ ys zs, us = ys ++ zs ∧ IntsAre ys ns
  | [], _, us, _ => ⟨[], us, rfl, .nil⟩
  | n :: ns, ws, _, .cons r t => by
    obtain ⟨ys, zs, rfl, h⟩ := vals_cut t
    obtain ⟨k, rfl⟩ := r
    exact ⟨.int n k :: ys, zs, rfl, .cons n k h⟩
theorem cr_sortP {X : Cx} : CallR X (.builtin "sorted") (rSortP X.K) := by
  intro pins s σ H vs us Q I r h
  obtain ⟨a, ls, d, n, B, rfl, hs, h64, ⟨hd, nd, hx⟩, q⟩ := h
  obtain ⟨its, rv, hl, hz⟩ := I.list hs
  rw [Vals.ref1 r]
  have e1 : its = ls.map fun x => Value.ref x.1 := by
    clear hx q nd h64 hz hl hs
    induction ls generalizing its with
    | nil => cases rv; rfl
    | cons x ls ih =>
      cases rv with
      | cons a b =>
        cases a
        rw [ih _ b] <;> rfl
  have raw : ∀ x ∈ ls, ∃ (xs : List Value), Vals (x.2.1.map V.int ++ x.2.2) xs ∧ IsTup s.heap x.1 xs.toArray := fun x m => by
    obtain ⟨xs, r2, hT, _⟩ := I.tuple (hx x m).1
    exact ⟨xs, r2, hT⟩
  have uniq : ∀ x ∈ ls, ∀ y ∈ ls, x.1 = y.1 → x.2.1 = y.2.1 := fun x mx y my e => by
    obtain ⟨xs, r1, o1, g1, c1, m1, t1⟩ := raw x mx
    obtain ⟨ys, r2, o2, g2, c2, m2, t2⟩ := raw y my
    rw [e, g2] at g1
    cases g1
    rw [t2] at t1
    injection t1 with t1 _
    have e3 : xs = ys := by have := congrArg Array.toList t1; simpa using this.symm
    subst e3
    obtain ⟨_, l1, _, _⟩ := hx x mx
    obtain ⟨_, l2, _, _⟩ := hx y my
    obtain ⟨ya, za, ea, ia⟩ := vals_cut r1
    obtain ⟨yb, zb, eb, ib⟩ := vals_cut r2
    have la := ia.length
    have lb := ib.length
    rw [ea] at eb
    have e4 : ya = yb := (List.append_inj eb (by omega)).1
    subst e4
    exact ia.nums.symm.trans ib.nums
  have kf : ∀ x ∈ ls, kfP ls (.ref x.1) = x.2.1 := fun x m => by
    have e0 : kfP ls (.ref x.1) = ((ls.find? fun y => y.1 == x.1).map fun y => y.2.1).getD [] := rfl
    rw [e0]
    cases e : ls.find? (fun y => y.1 == x.1) with
    | none => have := List.find?_eq_none.mp e x m; simp at this
    | some y =>
      have h1 := List.mem_of_find?_eq_some e
      have h2 : y.1 = x.1 := by have := List.find?_some e; simpa using this
      exact uniq y h1 x m h2
  refine PS.pre_sorted (d := d) (n := n) (B := B) (kf := kfP ls) hl.isList (by rw [e1, List.length_map]; exact h64) hd (fun v hv => ?_) (fun u hu v hv e => ?_) fun out h1 h2 => ?_
  · rw [e1] at hv
    obtain ⟨x, m, rfl⟩ := List.mem_map.mp hv
    obtain ⟨k1, k2, k3, k4⟩ := hx x m
    obtain ⟨xs, r2, hT⟩ := raw x m
    obtain ⟨ys, zs, ex, i⟩ := vals_cut r2
    have lx := r2.length
    rw [List.length_append, List.length_map] at lx
    rw [kf x m]
    exact ⟨⟨x.1, xs.toArray, ys, zs, rfl, hT, by simpa using ex, i, by rw [List.size_toArray]; omega⟩, k2, k4⟩
  · rw [e1] at hu hv
    obtain ⟨x, mx, rfl⟩ := List.mem_map.mp hu
    obtain ⟨y, my, rfl⟩ := List.mem_map.mp hv
    rw [kf x mx, kf y my] at e
    rw [nd_uniq nd mx my e]
  · obtain ⟨ep, he'⟩ := PyProof.Rows.sortedAll_at s.heap its out
    rw [e1] at h1
    obtain ⟨ls', p1, p2⟩ := perm_back h1
    have hlen : (ls'.map fun x => V.ref x.1).length ≤ sizeLine := by
      rw [List.length_map, p1.length_eq]
      rw [List.length_map] at hz
      exact hz
    have hv : Vals (ls'.map fun x => V.ref x.1) out.toList := by
      rw [p2]
      clear p2 p1 hlen
      induction ls' with
      | nil => exact .nil
      | cons x ls' ih => exact .cons (show RelV (V.ref x.1) (.ref x.1) from rfl) ih
    refine ⟨.ref _, upd H (s.heap.objs.size + 1) (.lst (ls'.map fun x => V.ref x.1)), I.laid (t' := s.toks) (fun _ _ => PyProof.Rows.sortedAll_old) (Nat.le_succ _) ⟨hlen, out.toList, ep, hv, he'⟩, rfl, q ls' _ p1 ?_ (I.hok.fresh (Nat.le_succ _))⟩
    rw [p2, List.pairwise_map] at h2
    refine h2.imp_of_mem fun {x y} mx my h => ?_
    rw [kf x (p1.mem_iff.mp mx), kf y (p1.mem_iff.mp my)] at h
    exact h
end Toy
/-! ### xs.extend(t), t a tuple (mine) -/
namespace L2
open PySem PySem.Spec PyProof.Rows
theorem extend_tup (l : Addr) (items : Array Value) (n : Nat) (b : Addr) (items2 : Array Value) (hlong : ¬ (!items.isEmpty && Builtin.List.listTooLong (items.size + items2.size)) = true) (h1 : items.size ≤ sizeLine) (h2 : items.size + items2.size ≤ sizeLine + 1) :
    Meets (Builtin.«list.extend» ⟨[.ref l, .ref b], []⟩) (fun _ R s => s.heap.get? l = some { cls := .type "list", dict := none, data := .seq items n, slots := #[] } ∧ IsTup s.heap b items2 ∧ R (.ok (.ret Value.none)) { s with heap := s.heap.update l (Obj.mapSeq fun x => x ++ items2), toks := s.toks }) := by
  intro prog w A R s h
  obtain ⟨hl, ⟨o, ho, hc, m, hd⟩, hR⟩ := h
  show wpAny (model prog w) A.in1 (Builtin.List.listExtendWith (.ref l) (.ref b) .none) _ _ s
  unfold Builtin.List.listExtendWith
  refine wpAny_bind (wpAny_typeOf ⟨o, ho, hc⟩ ?_)
  have h3 : (Builtin.List.listSameRef (.ref l) (.ref b) || Value.type "tuple" == Value.type "list" || Value.type "tuple" == Value.type "tuple") = true := by simp
  simp only [h3, if_true]
  refine wpAny_bind ?_
  unfold Builtin.List.listItems
  refine wpAny_bind (wpAny_seqItems ho hd (wpAny_pure ?_))
  refine wpAny_bind ?_
  refine wpAny_bind (wpAny_seqItems hl rfl (wpAny_pure ?_))
  show wpAny (model prog w) A.in1 (if (!items.isEmpty && Builtin.List.listTooLong (items.size + items2.size)) = true then _ else _) _ _ s
  rw [if_neg hlong]
  show wpAny (model prog w) A.in1 (updateSeq l (· ++ items2) >>= fun _ => ret .none) _ _ s
  refine wpAny_bind (wpAny_updateSeq hl rfl ?_ h1 (by rw [Array.size_append]; exact h2))
  exact wpAny_pure hR
variable {X : Cx}
def rExtendT (K : PySem.W.Frag) : V → List V → Hp → VK → Prop := fun x vs H Q => ∃ l b xs zs, x = .ref l ∧ vs = [.ref b] ∧ H l = some (.lst xs) ∧ SqT K H b zs ∧ xs.length + zs.length ≤ sizeLine ∧ Q .non (upd H l (.lst (xs ++ zs)))
theorem mt_extendT : MtM X "list.extend" (rExtendT X.K) := by
  intro pins s σ H x vs v us Q I rx rv h
  obtain ⟨l, b, xs, zs, rfl, rfl, hH, hB, hz, q⟩ := h
  cases rx
  obtain ⟨u, rfl, ru⟩ := rv.one
  cases ru
  obtain ⟨z, its, n, r, hl, e⟩ := I.lstM hH
  obtain ⟨its2, r2, e2, z2⟩ := I.tuple hB
  have hl2 := r2.length
  have hsz : its.toArray.size + its2.toArray.size ≤ sizeLine := by rw [List.size_toArray, List.size_toArray]; omega
  have hlong : ¬ (!its.toArray.isEmpty && Builtin.List.listTooLong (its.toArray.size + its2.toArray.size)) = true := by
    rw [notLongL hsz, Bool.and_false]
    exact Bool.false_ne_true
  refine call_meets F.slot_list_extend ⟨_, e, rfl⟩ F.entry_list_extend (F.args_list_extend_2 _ _)
    (extend_tup l its.toArray n b its2.toArray hlong (by rw [List.size_toArray]; omega) (by omega)) ⟨e, e2, ?_⟩
  refine ⟨.non, _, I.lset (its' := its ++ its2) hH e (by simp) (r.append r2) ?_, rfl, q⟩
  rw [List.length_append]
  omega
end L2
namespace Toy
open PySem PySem.Spec PyProof.Rows L2
/-! ### a tuple of things beside () -/
def rNeNilT (K : PySem.W.Frag) : R2 := fun x y H Q => ∃ a b ys, x = .ref a ∧ y = .ref b ∧ SqT K H a ys ∧ SqT K H b [] ∧ Q (.bl (!ys.isEmpty)) H
theorem op_neNilT {X : Cx} {K : PySem.W.Frag} (hu : X.A.units + 64 < cLine) (eK : X.K = K := by rfl) : OpR X (compareOp .NotEq) (rNeNilT K) := by
  cases eK
  intro pins s σ H x y v u Q I rx ry h
  obtain ⟨a, b, ys, rfl, rfl, ha, hb, q⟩ := h
  cases rx
  cases ry
  obtain ⟨its, rv, hl, _⟩ := I.tuple ha
  obtain ⟨its2, rv2, hl2, _⟩ := I.tuple hb
  cases rv2
  cases rv with
  | nil => exact SeqAt.RcNeAt.tuples (e := fun _ => true) hl hl2 (by omega) (fun j h1 h2 => absurd h1 (Nat.not_lt_zero _)) _ _ _ _ ⟨.bl _, H, I, rfl, q⟩
  | cons r rs =>
    refine SeqAt.RcNeAt.tuples (e := fun _ => true) hl hl2 (by omega) (fun j h1 h2 => absurd h2 (Nat.not_lt_zero _)) _ _ _ _ ⟨.bl true, H, I, ?_, q⟩
    show Value.bool _ = Value.bool true
    congr 1
/-! SPLIT -/
/-! ### data: a deed -/
structure Dd where
  add : Int
  low : Option Int
  high : Option Int
def oV : Option Int → V
  | none => .non
  | some i => .int i
def Dd.vs (d : Dd) : List V := [.int d.add, oV d.low, oV d.high]
def Dd.at_ (K : PySem.W.Frag) (H : Hp) (a : Addr) (d : Dd) : Prop := SqT K H a d.vs
/-- the ends stand right -/
def Dd.Ok (d : Dd) : Prop := ∀ l h, d.low = some l → d.high = some h → l < h ∨ (l = h ∧ d.add = 0)
def up (o : Option Int) (f : Int) : Int := match o with | none => f | some l => if f > l then f else l
def dn (o : Option Int) (f : Int) : Int := match o with | none => f | some h => if f < h then f else h
def Dd.ap (d : Dd) (v : Int) : Int := dn d.high (up d.low (v + d.add))
def hi (o : Option Int) (f : Int) : Int := match o with | none => f | some h => if f > h then h else f
def mk (d : Dd) (v : Int) : Int := match d.low with | none => hi d.high (v + d.add) | some l => if v + d.add < l then l else hi d.high (v + d.add)
theorem mk_eq {d : Dd} (ok : d.Ok) (v : Int) : mk d v = d.ap v := by
  obtain ⟨add, low, high⟩ := d
  have ok' := ok
  unfold Dd.Ok at ok'
  cases low with
  | none =>
    cases high with
    | none => rfl
    | some h =>
      show (if v + add > h then h else v + add) = if v + add < h then v + add else h
      by_cases c : v + add > h
      · rw [if_pos c, if_neg (by omega)]
      · rw [if_neg c]
        by_cases c2 : v + add < h
        · rw [if_pos c2]
        · rw [if_neg c2]; omega
  | some l =>
    cases high with
    | none =>
      show (if v + add < l then l else v + add) = if v + add > l then v + add else l
      by_cases c : v + add < l
      · rw [if_pos c, if_neg (by omega)]
      · rw [if_neg c]
        by_cases c2 : v + add > l
        · rw [if_pos c2]
        · rw [if_neg c2]; omega
    | some h =>
      have := ok' l h rfl rfl
      show (if v + add < l then l else if v + add > h then h else v + add) = if (if v + add > l then v + add else l) < h then (if v + add > l then v + add else l) else h
      by_cases c : v + add < l
      · rw [if_pos c, if_neg (show ¬ v + add > l by omega)]
        by_cases c2 : l < h
        · rw [if_pos c2]
        · rw [if_neg c2]; omega
      · rw [if_neg c]
        have e : (if v + add > l then v + add else l) = v + add := by
          by_cases c2 : v + add > l
          · rw [if_pos c2]
          · rw [if_neg c2]; omega
        rw [e]
        by_cases c2 : v + add > h
        · rw [if_pos c2, if_neg (by omega)]
        · rw [if_neg c2]
          by_cases c3 : v + add < h
          · rw [if_pos c3]
          · rw [if_neg c3]; omega
/-- all numbers of a deed are within b -/
def Dd.In (b : Int) (d : Dd) : Prop := -b ≤ d.add ∧ d.add ≤ b ∧ (∀ l, d.low = some l → -b ≤ l ∧ l ≤ b) ∧ ∀ l, d.high = some l → -b ≤ l ∧ l ≤ b
theorem in_mk {b add : Int} {low high : Option Int} (h1 : -b ≤ add) (h2 : add ≤ b) (hl : ∀ l, low = some l → -b ≤ l ∧ l ≤ b) (hh : ∀ l, high = some l → -b ≤ l ∧ l ≤ b) : Dd.In b ⟨add, low, high⟩ := ⟨h1, h2, hl, hh⟩
theorem in_none {b : Int} : ∀ l, (none : Option Int) = some l → -b ≤ l ∧ l ≤ b := fun _ h => nomatch h
theorem in_some {b x : Int} (h1 : -b ≤ x) (h2 : x ≤ b) : ∀ l, some x = some l → -b ≤ l ∧ l ≤ b := fun l h => by cases h; exact ⟨h1, h2⟩
theorem ap_in {b c : Int} {d : Dd} {v : Int} (h : d.In b) (h1 : -c ≤ v) (h2 : v ≤ c) (h0 : 0 ≤ c) : -(b + c) ≤ d.ap v ∧ d.ap v ≤ b + c := by
  obtain ⟨a1, a2, hl, hh⟩ := h
  unfold Dd.ap dn up
  cases el : d.low with
  | none =>
    cases eh : d.high with
    | none => dsimp only; omega
    | some k => have := hh k eh; dsimp only; split <;> omega
  | some l =>
    have := hl l el
    cases eh : d.high with
    | none => dsimp only; split <;> omega
    | some k => have := hh k eh; dsimp only; split <;> split <;> omega
theorem fits {i : Int} (h1 : -(10 ^ 40) ≤ i) (h2 : i ≤ 10 ^ 40) : i.natAbs.log2 < 1920 := by
  refine log_lt (by decide) (Nat.lt_of_le_of_lt (m := 10 ^ 40) (by omega) (by decide))
theorem menu7 : ∀ j : Nat, j < 7 → ∃ z : Int, ([.int 3, .int 5, .int 11, .int 17, .int 29, .int 37, .int 41] : List V)[j]? = some (.int z) ∧ 0 < z ∧ z ≤ 41
  | 0, _ => ⟨_, rfl, by decide, by decide⟩
  | 1, _ => ⟨_, rfl, by decide, by decide⟩
  | 2, _ => ⟨_, rfl, by decide, by decide⟩
  | 3, _ => ⟨_, rfl, by decide, by decide⟩
  | 4, _ => ⟨_, rfl, by decide, by decide⟩
  | 5, _ => ⟨_, rfl, by decide, by decide⟩
  | 6, _ => ⟨_, rfl, by decide, by decide⟩
  | n + 7, h => absurd h (by omega)
theorem menu6 : ∀ j : Nat, j < 6 → ∃ z : Int, ([.int 4, .int 12, .int 1000, .int (10 ^ Int.toNat 9), .int (10 ^ Int.toNat 29), .int (10 ^ Int.toNat 29)] : List V)[j]? = some (.int z) ∧ 1 ≤ z ∧ z ≤ 10 ^ 29
  | 0, _ => ⟨_, rfl, by decide, by decide⟩
  | 1, _ => ⟨_, rfl, by decide, by decide⟩
  | 2, _ => ⟨_, rfl, by decide, by decide⟩
  | 3, _ => ⟨_, rfl, by decide, by decide⟩
  | 4, _ => ⟨_, rfl, by decide, by decide⟩
  | 5, _ => ⟨_, rfl, by decide, by decide⟩
  | n + 6, h => absurd h (by omega)
def PotAt (H : Hp) (p : Addr) : Prop := ∃ a b : Int, H p = some (.lst [.int a, .int b]) ∧ 0 ≤ a ∧ 0 ≤ b ∧ b < 2 ^ 40
theorem PotAt.same {H H' : Hp} {p : Addr} (e : Same H H') (h : PotAt H p) : PotAt H' p := by
  obtain ⟨a, b, h1, h2⟩ := h
  exact ⟨a, b, e _ _ h1, h2⟩
def DeedArg (K : PySem.W.Frag) (H : Hp) (a : Addr) (d : Dd) : Prop := TyX K H (.ref a) (.type "tuple") ∧ SqT K H a d.vs ∧ d.Ok
def Dz (H : Hp) (a : Addr) (d : Dd) : Prop := H a = some (.tup d.vs) ∧ d.In (10 ^ 29 + 3) ∧ d.Ok
theorem Dz.arg {K : PySem.W.Frag} {H : Hp} {a : Addr} {d : Dd} (h : Dz H a d) : DeedArg K H a d := ⟨.base (.tup h.1), SqT.of h.1, h.2.2⟩
theorem Dz.same {H H' : Hp} {a : Addr} {d : Dd} (e : Same H H') (h : Dz H a d) : Dz H' a d := ⟨e _ _ h.1, h.2⟩
def look : Dd := ⟨0, none, none⟩
theorem look_ok : look.Ok := fun _ _ h => nomatch h
theorem look_in {b : Int} (h : 0 ≤ b) : look.In b := in_mk (by omega) (by omega) in_none in_none
theorem pot_ne {H : Hp} {p a : Addr} (h : PotAt H p) (n : H a = none) : a ≠ p := fun z => by obtain ⟨_, _, h1, _⟩ := h; rw [← z, n] at h1; cases h1
/-! ### two deeds as one -/
def wholeD (add : Int) (low high : Option Int) : Dd := if low ≠ none ∧ low = high then ⟨0, low, high⟩ else ⟨add, low, high⟩
theorem wholeD_low {add : Int} {low high : Option Int} : (wholeD add low high).low = low := by unfold wholeD; split <;> rfl
theorem wholeD_high {add : Int} {low high : Option Int} : (wholeD add low high).high = high := by unfold wholeD; split <;> rfl
theorem wholeD_add {add : Int} {low high : Option Int} : (wholeD add low high).add = if low ≠ none ∧ low = high then 0 else add := by unfold wholeD; split <;> rfl
def endBeh (b : Dd) (o p : Option Int) : Option Int := match o with | none => p | some l => some (b.ap l)
def beh (a b : Dd) : Dd := wholeD (a.add + b.add) (endBeh b a.low b.low) (endBeh b a.high b.high)
theorem up_mono {o : Option Int} {x y : Int} (h : x ≤ y) : up o x ≤ up o y := by
  cases o with
  | none => exact h
  | some l =>
    show (if x > l then x else l) ≤ (if y > l then y else l)
    split <;> split <;> omega
theorem dn_mono {o : Option Int} {x y : Int} (h : x ≤ y) : dn o x ≤ dn o y := by
  cases o with
  | none => exact h
  | some l =>
    show (if x < l then x else l) ≤ (if y < l then y else l)
    split <;> split <;> omega
theorem ap_mono (d : Dd) {x y : Int} (h : x ≤ y) : d.ap x ≤ d.ap y := dn_mono (up_mono (by omega))
/-- what is made, by the four ways -/
theorem ap_nn (d : Dd) (v : Int) (h1 : d.low = none) (h2 : d.high = none) : d.ap v = v + d.add := by unfold Dd.ap; rw [h1, h2] <;> rfl
theorem ap_sn (d : Dd) (v l : Int) (h1 : d.low = some l) (h2 : d.high = none) : d.ap v = if v + d.add > l then v + d.add else l := by unfold Dd.ap; rw [h1, h2] <;> rfl
theorem ap_ns (d : Dd) (v h : Int) (h1 : d.low = none) (h2 : d.high = some h) : d.ap v = if v + d.add < h then v + d.add else h := by unfold Dd.ap; rw [h1, h2] <;> rfl
theorem ap_ss (d : Dd) (v l h : Int) (h1 : d.low = some l) (h2 : d.high = some h) : d.ap v = if (if v + d.add > l then v + d.add else l) < h then (if v + d.add > l then v + d.add else l) else h := by unfold Dd.ap; rw [h1, h2] <;> rfl
/-- facts for omega -/
theorem ap_cases (d : Dd) (ok : d.Ok) (v : Int) :
    (∀ l, d.low = some l → l ≤ d.ap v ∧ (v + d.add ≤ l → d.ap v = l)) ∧ (∀ h, d.high = some h → d.ap v ≤ h ∧ (h ≤ v + d.add → d.ap v = h)) ∧
    ((d.low = none ∨ ∃ l, d.low = some l ∧ l ≤ v + d.add) → (d.high = none ∨ ∃ h, d.high = some h ∧ v + d.add ≤ h) → d.ap v = v + d.add) := by
  cases e1 : d.low with
  | none =>
    cases e2 : d.high with
    | none =>
      rw [ap_nn d v e1 e2]
      exact ⟨fun _ h => (nomatch h), fun _ h => (nomatch h), fun _ _ => rfl⟩
    | some h =>
      rw [ap_ns d v h e1 e2]
      refine ⟨fun _ h => (nomatch h), fun k hk => ?_, fun _ h2 => ?_⟩
      · cases hk; split <;> omega
      · rcases h2 with h2 | ⟨k, hk, h2⟩
        · cases h2
        · cases hk; split <;> omega
  | some l =>
    cases e2 : d.high with
    | none =>
      rw [ap_sn d v l e1 e2]
      refine ⟨fun k hk => ?_, fun _ h => (nomatch h), fun h1 _ => ?_⟩
      · cases hk; split <;> omega
      · rcases h1 with h1 | ⟨k, hk, h1⟩
        · cases h1
        · cases hk; split <;> omega
    | some h =>
      have o := ok l h e1 e2
      rw [ap_ss d v l h e1 e2]
      refine ⟨fun k hk => ?_, fun k hk => ?_, fun h1 h2 => ?_⟩
      · cases hk
        by_cases c : v + d.add > l
        · rw [if_pos c]; split <;> omega
        · rw [if_neg c]; split <;> omega
      · cases hk
        by_cases c : v + d.add > l
        · rw [if_pos c]; split <;> omega
        · rw [if_neg c]; split <;> omega
      · rcases h1 with h1 | ⟨k, hk, h1⟩
        · cases h1
        rcases h2 with h2 | ⟨k', hk', h2⟩
        · cases h2
        cases hk; cases hk'
        by_cases c : v + d.add > l
        · rw [if_pos c]; split <;> omega
        · rw [if_neg c]; split <;> omega
theorem beh_ok {a b : Dd} (ha : a.Ok) (hb : b.Ok) : (beh a b).Ok := by
  intro l h h1 h2
  unfold beh at h1 h2 ⊢
  rw [wholeD_low] at h1
  rw [wholeD_high] at h2
  rw [wholeD_add]
  have key : l ≤ h := by
    unfold endBeh at h1 h2
    cases e1 : a.low with
    | none =>
      rw [e1] at h1
      cases e2 : a.high with
      | none =>
        rw [e2] at h2
        have := hb l h h1 h2
        omega
      | some k =>
        rw [e2] at h2
        cases h2
        exact ((ap_cases b hb k).1 l h1).1
    | some j =>
      rw [e1] at h1
      cases h1
      cases e2 : a.high with
      | none =>
        rw [e2] at h2
        exact ((ap_cases b hb j).2.1 h h2).1
      | some k =>
        rw [e2] at h2
        cases h2
        have := ha j k e1 e2
        exact ap_mono b (by omega)
  by_cases c : l = h
  · right
    refine ⟨c, if_pos ⟨by rw [h1]; exact Option.some_ne_none l, by rw [h1, h2, c]⟩⟩
  · left; omega
/-- the ends of a deed -/
theorem ap_low {d : Dd} (ok : d.Ok) {l v : Int} (h : d.low = some l) (hv : v + d.add ≤ l) : d.ap v = l := ((ap_cases d ok v).1 l h).2 hv
theorem ap_high {d : Dd} (ok : d.Ok) {l v : Int} (h : d.high = some l) (hv : l ≤ v + d.add) : d.ap v = l := ((ap_cases d ok v).2.1 l h).2 hv
theorem whole_ap {add : Int} {low high : Option Int} {v w : Int} (hl : ∀ l, low = some l → l ≤ w) (hh : ∀ h, high = some h → w ≤ h)
    (h1 : (∀ l, low = some l → v + add ≤ l → w = l)) (h2 : (∀ h, high = some h → h ≤ v + add → w = h))
    (h3 : (low = none ∨ ∃ l, low = some l ∧ l ≤ v + add) → (high = none ∨ ∃ h, high = some h ∧ v + add ≤ h) → w = v + add) : (wholeD add low high).ap v = w := by
  cases e1 : low with
  | none =>
    have e3 : wholeD add none high = ⟨add, none, high⟩ := by unfold wholeD; rw [if_neg (fun z => z.1 rfl)]
    rw [e3]
    cases e2 : high with
    | none => rw [ap_nn _ _ rfl rfl]; exact (h3 (.inl e1) (.inl e2)).symm
    | some h =>
      rw [ap_ns _ _ h rfl rfl]
      show (if v + add < h then v + add else h) = w
      have a2 := h2 h e2
      have a3 := h3 (.inl e1)
      split
      · exact (a3 (.inr ⟨h, e2, by omega⟩)).symm
      · exact (a2 (by omega)).symm
  | some l =>
    have b1 := hl l e1
    cases e2 : high with
    | none =>
      have e3 : wholeD add (some l) none = ⟨add, some l, none⟩ := by unfold wholeD; rw [if_neg (fun z => nomatch z.2)]
      rw [e3, ap_sn _ _ l rfl rfl]
      show (if v + add > l then v + add else l) = w
      have a1 := h1 l e1
      split
      · exact (h3 (.inr ⟨l, e1, by omega⟩) (.inl e2)).symm
      · exact (a1 (by omega)).symm
    | some h =>
      have b2 := hh h e2
      by_cases c : l = h
      · subst c
        have e3 : wholeD add (some l) (some l) = ⟨0, some l, some l⟩ := by unfold wholeD; rw [if_pos ⟨Option.some_ne_none l, rfl⟩]
        rw [e3, ap_ss _ _ l l rfl rfl]
        split <;> omega
      · have e3 : wholeD add (some l) (some h) = ⟨add, some l, some h⟩ := by unfold wholeD; rw [if_neg (fun z => c (Option.some.inj z.2))]
        rw [e3, ap_ss _ _ l h rfl rfl]
        show (if (if v + add > l then v + add else l) < h then (if v + add > l then v + add else l) else h) = w
        have a1 := h1 l e1
        have a2 := h2 h e2
        by_cases c1 : v + add > l
        · rw [if_pos c1]
          split
          · exact (h3 (.inr ⟨l, e1, by omega⟩) (.inr ⟨h, e2, by omega⟩)).symm
          · exact (a2 (by omega)).symm
        · rw [if_neg c1]
          have := a1 (by omega)
          split <;> omega
theorem beh_ap {a b : Dd} (ha : a.Ok) (hb : b.Ok) (v : Int) : (beh a b).ap v = b.ap (a.ap v) := by
  obtain ⟨A1, A2, A3⟩ := ap_cases a ha v
  obtain ⟨B1, B2, B3⟩ := ap_cases b hb (a.ap v)
  have P3 : ∀ l, endBeh b a.low b.low = some l → v + (a.add + b.add) ≤ l → b.ap (a.ap v) = l := by
    intro l hl hv
    unfold endBeh at hl
    cases e : a.low with
    | none =>
      rw [e] at hl
      refine (B1 l hl).2 ?_
      cases e2 : a.high with
      | none => rw [A3 (.inl e) (.inl e2)]; omega
      | some k =>
        by_cases c : v + a.add ≤ k
        · rw [A3 (.inl e) (.inr ⟨k, e2, c⟩)]; omega
        · rw [(A2 k e2).2 (by omega)]; omega
    | some j =>
      rw [e] at hl
      cases hl
      -- v + a.add + b.add ≤ b.ap j
      by_cases c : v + a.add ≤ j
      · rw [(A1 j e).2 c]
      · have m : b.ap j ≤ b.ap (a.ap v) := ap_mono b (A1 j e).1
        have n : b.ap (a.ap v) ≤ b.ap (v + a.add) := by
          refine ap_mono b ?_
          cases e2 : a.high with
          | none => rw [A3 (.inr ⟨j, e, by omega⟩) (.inl e2)]; omega
          | some k =>
            by_cases c : v + a.add ≤ k
            · rw [A3 (.inr ⟨j, e, by omega⟩) (.inr ⟨k, e2, c⟩)]; omega
            · rw [(A2 k e2).2 (by omega)]; omega
        -- b at v + a.add is at most max of its sum and its low end
        obtain ⟨C1, C2, C3⟩ := ap_cases b hb (v + a.add)
        obtain ⟨D1, D2, D3⟩ := ap_cases b hb j
        cases f1 : b.low with
        | none =>
          cases f2 : b.high with
          | none => have := C3 (.inl f1) (.inl f2); have := D3 (.inl f1) (.inl f2); omega
          | some k =>
            have := C2 k f2; have := D2 k f2
            by_cases c3 : v + a.add + b.add ≤ k
            · have := C3 (.inl f1) (.inr ⟨k, f2, c3⟩); have := D3 (.inl f1) (.inr ⟨k, f2, by omega⟩); omega
            · omega
        | some i =>
          have := C1 i f1; have := D1 i f1
          cases f2 : b.high with
          | none =>
            by_cases c3 : i ≤ v + a.add + b.add
            · have := C3 (.inr ⟨i, f1, c3⟩) (.inl f2)
              by_cases c4 : i ≤ j + b.add
              · have := D3 (.inr ⟨i, f1, c4⟩) (.inl f2); omega
              · omega
            · omega
          | some k =>
            have := C2 k f2; have := D2 k f2
            by_cases c3 : i ≤ v + a.add + b.add
            · by_cases c5 : v + a.add + b.add ≤ k
              · have := C3 (.inr ⟨i, f1, c3⟩) (.inr ⟨k, f2, c5⟩)
                by_cases c4 : i ≤ j + b.add
                · have := D3 (.inr ⟨i, f1, c4⟩) (.inr ⟨k, f2, by omega⟩); omega
                · omega
              · omega
            · omega
  have P4 : ∀ h, endBeh b a.high b.high = some h → h ≤ v + (a.add + b.add) → b.ap (a.ap v) = h := by
    intro h hh hv
    unfold endBeh at hh
    cases e : a.high with
    | none =>
      rw [e] at hh
      refine (B2 h hh).2 ?_
      cases e2 : a.low with
      | none => rw [A3 (.inl e2) (.inl e)]; omega
      | some k =>
        by_cases c : k ≤ v + a.add
        · rw [A3 (.inr ⟨k, e2, c⟩) (.inl e)]; omega
        · rw [(A1 k e2).2 (by omega)]; omega
    | some j =>
      rw [e] at hh
      cases hh
      by_cases c : j ≤ v + a.add
      · rw [(A2 j e).2 c]
      · have m : b.ap (a.ap v) ≤ b.ap j := ap_mono b (A2 j e).1
        have n : b.ap (v + a.add) ≤ b.ap (a.ap v) := by
          refine ap_mono b ?_
          cases e2 : a.low with
          | none => rw [A3 (.inl e2) (.inr ⟨j, e, by omega⟩)]; omega
          | some k =>
            by_cases c : k ≤ v + a.add
            · rw [A3 (.inr ⟨k, e2, c⟩) (.inr ⟨j, e, by omega⟩)]; omega
            · rw [(A1 k e2).2 (by omega)]; omega
        obtain ⟨C1, C2, C3⟩ := ap_cases b hb (v + a.add)
        obtain ⟨D1, D2, D3⟩ := ap_cases b hb j
        cases f1 : b.high with
        | none =>
          cases f2 : b.low with
          | none => have := C3 (.inl f2) (.inl f1); have := D3 (.inl f2) (.inl f1); omega
          | some k =>
            have := C1 k f2; have := D1 k f2
            by_cases c3 : k ≤ v + a.add + b.add
            · have := C3 (.inr ⟨k, f2, c3⟩) (.inl f1); have := D3 (.inr ⟨k, f2, by omega⟩) (.inl f1); omega
            · omega
        | some i =>
          have := C2 i f1; have := D2 i f1
          cases f2 : b.low with
          | none =>
            by_cases c3 : v + a.add + b.add ≤ i
            · have := C3 (.inl f2) (.inr ⟨i, f1, c3⟩)
              by_cases c4 : j + b.add ≤ i
              · have := D3 (.inl f2) (.inr ⟨i, f1, c4⟩); omega
              · omega
            · omega
          | some k =>
            have := C1 k f2; have := D1 k f2
            by_cases c3 : v + a.add + b.add ≤ i
            · by_cases c5 : k ≤ v + a.add + b.add
              · have := C3 (.inr ⟨k, f2, c5⟩) (.inr ⟨i, f1, c3⟩)
                by_cases c4 : j + b.add ≤ i
                · have := D3 (.inr ⟨k, f2, by omega⟩) (.inr ⟨i, f1, c4⟩); omega
                · omega
              · omega
            · omega
  unfold beh
  refine whole_ap (fun l hl => ?_) (fun h hh => ?_) P3 P4 (fun h1 h2 => ?_)
  · unfold endBeh at hl
    cases e : a.low with
    | none => rw [e] at hl; exact (B1 l hl).1
    | some j => rw [e] at hl; cases hl; exact ap_mono b (A1 j e).1
  · unfold endBeh at hh
    cases e : a.high with
    | none => rw [e] at hh; exact (B2 h hh).1
    | some j => rw [e] at hh; cases hh; exact ap_mono b (A2 j e).1
  · -- between the ends both add
    by_cases s1 : ∃ l, endBeh b a.low b.low = some l ∧ v + (a.add + b.add) ≤ l
    · obtain ⟨l, s1, s2⟩ := s1
      rw [P3 l s1 s2]
      rcases h1 with h1 | ⟨l', h1, h4⟩
      · rw [s1] at h1; cases h1
      · rw [s1] at h1; cases h1; omega
    by_cases s2 : ∃ l, endBeh b a.high b.high = some l ∧ l ≤ v + (a.add + b.add)
    · obtain ⟨l, s2, s3⟩ := s2
      rw [P4 l s2 s3]
      rcases h2 with h2 | ⟨l', h2, h4⟩
      · rw [s2] at h2; cases h2
      · rw [s2] at h2; cases h2; omega
    have h1s : ∀ l, endBeh b a.low b.low = some l → l < v + (a.add + b.add) := fun l hl => Int.not_le.mp fun z => s1 ⟨l, hl, z⟩
    have h2s : ∀ l, endBeh b a.high b.high = some l → v + (a.add + b.add) < l := fun l hl => Int.not_le.mp fun z => s2 ⟨l, hl, z⟩
    have a1 : a.low = none ∨ ∃ l, a.low = some l ∧ l ≤ v + a.add := by
      cases e : a.low with
      | none => exact .inl rfl
      | some j =>
        right
        refine ⟨j, rfl, ?_⟩
        rcases h1 with h1 | ⟨l, h1, h4⟩
        · unfold endBeh at h1; rw [e] at h1; cases h1
        have st := h1s l h1
        unfold endBeh at h1; rw [e] at h1; cases h1
        by_cases c : j ≤ v + a.add
        · exact c
        obtain ⟨D1, D2, D3⟩ := ap_cases b hb j
        exfalso
        cases f2 : b.high with
        | none =>
          cases f1 : b.low with
          | none => have := D3 (.inl f1) (.inl f2); omega
          | some i => have := D1 i f1; by_cases c4 : i ≤ j + b.add; (have := D3 (.inr ⟨i, f1, c4⟩) (.inl f2); omega); omega
        | some k =>
          have := D2 k f2
          by_cases c5 : j + b.add ≤ k
          · cases f1 : b.low with
            | none => have := D3 (.inl f1) (.inr ⟨k, f2, c5⟩); omega
            | some i => have := D1 i f1; by_cases c4 : i ≤ j + b.add; (have := D3 (.inr ⟨i, f1, c4⟩) (.inr ⟨k, f2, c5⟩); omega); omega
          · have e5 : b.ap j = k := this.2 (by omega)
            -- the upper end is met: then high of both is k
            rcases h2 with h2 | ⟨h, h2, h6⟩
            · unfold endBeh at h2; cases e7 : a.high with
              | none => rw [e7] at h2; rw [f2] at h2; cases h2
              | some m => rw [e7] at h2; cases h2
            · unfold endBeh at h2; cases e7 : a.high with
              | none => rw [e7] at h2; rw [f2] at h2; cases h2; omega
              | some m =>
                rw [e7] at h2; cases h2
                have o := ha j m e e7
                have q1 := ap_mono b (show j ≤ m by omega)
                have q2 := ((ap_cases b hb m).2.1 k f2).1
                omega
    have a2 : a.high = none ∨ ∃ l, a.high = some l ∧ v + a.add ≤ l := by
      cases e : a.high with
      | none => exact .inl rfl
      | some j =>
        right
        refine ⟨j, rfl, ?_⟩
        rcases h2 with h2 | ⟨l, h2, h4⟩
        · unfold endBeh at h2; rw [e] at h2; cases h2
        have st := h2s l h2
        unfold endBeh at h2; rw [e] at h2; cases h2
        by_cases c : v + a.add ≤ j
        · exact c
        obtain ⟨D1, D2, D3⟩ := ap_cases b hb j
        exfalso
        cases f2 : b.low with
        | none =>
          cases f1 : b.high with
          | none => have := D3 (.inl f2) (.inl f1); omega
          | some i => have := D2 i f1; by_cases c4 : j + b.add ≤ i; (have := D3 (.inl f2) (.inr ⟨i, f1, c4⟩); omega); omega
        | some k =>
          have := D1 k f2
          by_cases c5 : k ≤ j + b.add
          · cases f1 : b.high with
            | none => have := D3 (.inr ⟨k, f2, c5⟩) (.inl f1); omega
            | some i => have := D2 i f1; by_cases c4 : j + b.add ≤ i; (have := D3 (.inr ⟨k, f2, c5⟩) (.inr ⟨i, f1, c4⟩); omega); omega
          · have e5 : b.ap j = k := this.2 (by omega)
            rcases h1 with h1 | ⟨h, h1, h6⟩
            · unfold endBeh at h1; cases e7 : a.low with
              | none => rw [e7] at h1; rw [f2] at h1; cases h1
              | some m => rw [e7] at h1; cases h1
            · unfold endBeh at h1; cases e7 : a.low with
              | none => rw [e7] at h1; rw [f2] at h1; cases h1; omega
              | some m =>
                rw [e7] at h1; cases h1
                have o := ha m j e7 e
                have q1 := ap_mono b (show m ≤ j by omega)
                have q2 := ((ap_cases b hb m).1 k f2).1
                omega
    have ea := A3 a1 a2
    rw [ea] at B1 B2 B3 ⊢
    have b1 : b.low = none ∨ ∃ l, b.low = some l ∧ l ≤ v + a.add + b.add := by
      cases f : b.low with
      | none => exact .inl rfl
      | some i =>
        refine .inr ⟨i, rfl, ?_⟩
        rcases h1 with h1 | ⟨l, h1, h4⟩
        · unfold endBeh at h1; cases e7 : a.low with
          | none => rw [e7] at h1; rw [f] at h1; cases h1
          | some m => rw [e7] at h1; cases h1
        · unfold endBeh at h1; cases e7 : a.low with
          | none => rw [e7] at h1; rw [f] at h1; cases h1; omega
          | some m => rw [e7] at h1; cases h1; have := ((ap_cases b hb m).1 i f).1; omega
    have b2 : b.high = none ∨ ∃ l, b.high = some l ∧ v + a.add + b.add ≤ l := by
      cases f : b.high with
      | none => exact .inl rfl
      | some i =>
        refine .inr ⟨i, rfl, ?_⟩
        rcases h2 with h2 | ⟨l, h2, h4⟩
        · unfold endBeh at h2; cases e7 : a.high with
          | none => rw [e7] at h2; rw [f] at h2; cases h2
          | some m => rw [e7] at h2; cases h2
        · unfold endBeh at h2; cases e7 : a.high with
          | none => rw [e7] at h2; rw [f] at h2; cases h2; omega
          | some m => rw [e7] at h2; cases h2; have := ((ap_cases b hb m).2.1 i f).1; omega
    rw [B3 b1 b2]; omega
theorem beh_in {a b : Dd} {x y : Int} (ha : a.In x) (hb : b.In y) (h0 : 0 ≤ x) (h1 : 0 ≤ y) : (beh a b).In (y + x) := by
  obtain ⟨a1, a2, a3, a4⟩ := ha
  have hb' := hb
  obtain ⟨b1, b2, b3, b4⟩ := hb
  refine ⟨?_, ?_, fun l hl => ?_, fun l hl => ?_⟩
  · unfold beh; rw [wholeD_add]; split <;> omega
  · unfold beh; rw [wholeD_add]; split <;> omega
  · unfold beh at hl; rw [wholeD_low] at hl; unfold endBeh at hl
    cases e : a.low with
    | none => rw [e] at hl; have := b3 l hl; omega
    | some j => rw [e] at hl; cases hl; exact ap_in hb' (a3 j e).1 (a3 j e).2 h0
  · unfold beh at hl; rw [wholeD_high] at hl; unfold endBeh at hl
    cases e : a.high with
    | none => rw [e] at hl; have := b4 l hl; omega
    | some j => rw [e] at hl; cases hl; exact ap_in hb' (a4 j e).1 (a4 j e).2 h0
/-- far out a deed shows its ends -/
theorem far_low {d : Dd} {b F : Int} (ok : d.Ok) (i : d.In b) (hF : 3 * b + 2 ≤ F) (h0 : 0 ≤ b) : (if d.ap (-F - 1) = d.ap (-F) then some (d.ap (-F)) else none) = d.low := by
  obtain ⟨i1, i2, i3, i4⟩ := i
  cases e : d.low with
  | some l =>
    have := i3 l e
    rw [ap_low ok e (show -F - 1 + d.add ≤ l by omega), ap_low ok e (show -F + d.add ≤ l by omega), if_pos rfl]
  | none =>
    have k : ∀ v : Int, v ≤ -F → d.ap v = v + d.add := fun v hv => by
      refine (ap_cases d ok v).2.2 (.inl e) ?_
      cases f : d.high with
      | none => exact .inl rfl
      | some h => have := i4 h f; exact .inr ⟨h, rfl, by omega⟩
    rw [k _ (by omega), k _ (by omega), if_neg (by omega)]
theorem far_high {d : Dd} {b F : Int} (ok : d.Ok) (i : d.In b) (hF : 3 * b + 2 ≤ F) (h0 : 0 ≤ b) : (if d.ap F = d.ap (F + 1) then some (d.ap F) else none) = d.high := by
  obtain ⟨i1, i2, i3, i4⟩ := i
  cases e : d.high with
  | some l =>
    have := i4 l e
    rw [ap_high ok e (show l ≤ F + 1 + d.add by omega), ap_high ok e (show l ≤ F + d.add by omega), if_pos rfl]
  | none =>
    have k : ∀ v : Int, F ≤ v → d.ap v = v + d.add := fun v hv => by
      refine (ap_cases d ok v).2.2 ?_ (.inl e)
      cases f : d.low with
      | none => exact .inl rfl
      | some h => have := i3 h f; exact .inr ⟨h, rfl, by omega⟩
    rw [k _ (by omega), k _ (by omega), if_neg (by omega)]
theorem bound_of (d : Dd) : ∃ b, 0 ≤ b ∧ d.In b := by
  obtain ⟨a, l, h⟩ := d
  refine ⟨a.natAbs + (l.getD 0).natAbs + (h.getD 0).natAbs, by omega, in_mk (by omega) (by omega) (fun x hx => ?_) fun x hx => ?_⟩
  · cases hx; simp only [Option.getD_some]; omega
  · cases hx; simp only [Option.getD_some]; omega
theorem In.le {d : Dd} {a b : Int} (h : d.In a) (e : a ≤ b) : d.In b := ⟨by have := h.1; omega, by have := h.2.1; omega, fun l hl => by have := h.2.2.1 l hl; omega, fun l hl => by have := h.2.2.2 l hl; omega⟩
/-- there is just one deed that makes the same of all -/
theorem ap_ext {d e : Dd} (hd : d.Ok) (he : e.Ok) (h : ∀ v, d.ap v = e.ap v) : d = e := by
  obtain ⟨b, b0, hb⟩ := bound_of d
  obtain ⟨c, c0, hc⟩ := bound_of e
  have l1 := far_low (F := 3 * (b + c) + 2) hd (In.le hb (show b ≤ b + c by omega)) (by omega) (by omega)
  have l2 := far_low (F := 3 * (b + c) + 2) he (In.le hc (show c ≤ b + c by omega)) (by omega) (by omega)
  have h1 := far_high (F := 3 * (b + c) + 2) hd (In.le hb (show b ≤ b + c by omega)) (by omega) (by omega)
  have h2 := far_high (F := 3 * (b + c) + 2) he (In.le hc (show c ≤ b + c by omega)) (by omega) (by omega)
  rw [h, h, l2] at l1
  rw [h, h, h2] at h1
  have ea : d.add = e.add := by
    cases e1 : d.low with
    | none =>
      cases e2 : d.high with
      | none =>
        have := h 0
        rw [ap_nn d 0 e1 e2, ap_nn e 0 (l1.trans e1) (h1.trans e2)] at this
        omega
      | some k =>
        have := h (k - 1 - b - c)
        have q1 := hb.1; have q2 := hb.2.1; have q3 := hc.1; have q4 := hc.2.1
        rw [ap_ns d _ k e1 e2, ap_ns e _ k (l1.trans e1) (h1.trans e2), if_pos (by omega), if_pos (by omega)] at this
        omega
    | some l =>
      cases e2 : d.high with
      | none =>
        have := h (l + 1 + b + c)
        have q1 := hb.1; have q2 := hb.2.1; have q3 := hc.1; have q4 := hc.2.1
        rw [ap_sn d _ l e1 e2, ap_sn e _ l (l1.trans e1) (h1.trans e2), if_pos (by omega), if_pos (by omega)] at this
        omega
      | some k =>
        have o1 := hd l k e1 e2
        have o2 := he l k (l1.trans e1) (h1.trans e2)
        by_cases c1 : l = k
        · omega
        · have g1 := h (l - d.add)
          have g2 := h (l - d.add + 1)
          obtain ⟨C1, C2, C3⟩ := ap_cases e he (l - d.add)
          obtain ⟨D1, D2, D3⟩ := ap_cases e he (l - d.add + 1)
          rw [ap_low hd e1 (by omega)] at g1
          rw [(ap_cases d hd (l - d.add + 1)).2.2 (.inr ⟨l, e1, by omega⟩) (.inr ⟨k, e2, by omega⟩)] at g2
          have := C1 l (l1.trans e1); have := C2 k (h1.trans e2); have := D1 l (l1.trans e1); have := D2 k (h1.trans e2)
          by_cases c2 : l ≤ l - d.add + e.add
          · by_cases c3 : l - d.add + e.add ≤ k
            · have := C3 (.inr ⟨l, l1.trans e1, c2⟩) (.inr ⟨k, h1.trans e2, c3⟩); omega
            · omega
          · by_cases c3 : l ≤ l - d.add + 1 + e.add
            · have := D3 (.inr ⟨l, l1.trans e1, c3⟩) (.inr ⟨k, h1.trans e2, by omega⟩); omega
            · omega
  obtain ⟨a1, a2, a3⟩ := d
  obtain ⟨b1, b2, b3⟩ := e
  cases ea; cases l1; cases h1
  rfl
theorem beh_assoc {a b c : Dd} (ha : a.Ok) (hb : b.Ok) (hc : c.Ok) : beh (beh a b) c = beh a (beh b c) :=
  ap_ext (beh_ok (beh_ok ha hb) hc) (beh_ok ha (beh_ok hb hc)) fun v => by rw [beh_ap (beh_ok ha hb) hc, beh_ap ha hb, beh_ap ha (beh_ok hb hc), beh_ap hb hc]
theorem look_ap (v : Int) : look.ap v = v := by show v + 0 = v; omega
theorem beh_look {a : Dd} (ha : a.Ok) : beh a look = a := ap_ext (beh_ok ha look_ok) ha fun v => by rw [beh_ap ha look_ok, look_ap]
theorem look_beh {a : Dd} (ha : a.Ok) : beh look a = a := ap_ext (beh_ok look_ok ha) ha fun v => by rw [beh_ap look_ok ha, look_ap]
/-! ### a deed as data -/
def po : Option Int → PyData
  | none => .none
  | some i => .int i
def pd (d : Dd) : PyData := .tuple [.int d.add, po d.low, po d.high]
theorem po_dp {K : PySem.W.Frag} {H : Hp} (o : Option Int) : Dp K H (oV o) (po o) := by
  cases o with
  | none => exact .non
  | some i => exact .int i
theorem pd_dp {K : PySem.W.Frag} {H : Hp} {a : Addr} {d : Dd} (h : SqT K H a d.vs) : Dp K H (.ref a) (pd d) := .tup h (.cons (.int _) (.cons (po_dp _) (.cons (po_dp _) .nil)))
theorem pd_sh (d : Dd) : SeqAt.shaped (pd d) = true := by
  obtain ⟨a, l, h⟩ := d
  cases l <;> cases h <;> rfl
theorem pd_refl (d : Dd) : PyData.eqv (pd d) (pd d) = true := SeqAt.eqv_refl _ (SeqAt.canLay_of_shaped (pd_sh d))
/-- a new tuple with a deed -/
def NewD (H : Hp) (Q : VK) (d : Dd) : Prop := ∀ (a : Addr) (H' : Hp), Same H H' → H a = none → H' a = some (.tup d.vs) → Q (.ref a) H'
abbrev Fx : Int := 10 ^ Int.toNat 64 * 10 ^ Int.toNat 26
theorem Fx_eq : Fx = 10 ^ 90 := by decide
theorem take_snoc {α : Type} {l : List α} {i : Nat} {x : α} (h : l[i]? = some x) : l.take (i + 1) = l.take i ++ [x] := by rw [List.take_succ, h] <;> rfl
/-- a deed's tuple that was made here -/
def Da (H : Hp) (a : Addr) (d : Dd) : Prop := H a = some (.tup d.vs) ∧ d.In (10 ^ 80) ∧ d.Ok
theorem Da.arg {K : PySem.W.Frag} {H : Hp} {a : Addr} {d : Dd} (h : Da H a d) : DeedArg K H a d := ⟨.base (.tup h.1), SqT.of h.1, h.2.2⟩
theorem Da.same {H H' : Hp} {a : Addr} {d : Dd} (e : Same H H') (h : Da H a d) : Da H' a d := ⟨e _ _ h.1, h.2⟩
theorem Da.sq {K : PySem.W.Frag} {H : Hp} {a : Addr} {d : Dd} (h : Da H a d) : SqT K H a d.vs := SqT.of h.1
theorem Da.dp {K : PySem.W.Frag} {H : Hp} {a : Addr} {d : Dd} (h : Da H a d) : Dp K H (.ref a) (pd d) := pd_dp h.sq
theorem ne_pd {d : Dd} : (!PyData.eqv (pd d) (pd d)) = false := by rw [pd_refl] <;> rfl
theorem addT {x : Int} {k : Bool} {p : Prop} [Decidable p] (h : k = true ↔ ¬ p) : x * (if k = true then 1 else 0) = if p then 0 else x := by
  by_cases c : p
  · rw [if_pos c, if_neg (fun z => h.mp z c)]; exact Int.mul_zero _
  · rw [if_neg c, if_pos (h.mpr c)]; exact Int.mul_one _
/-! ### shown data: one look -/
structure Sh (d : PyData) (n c : Nat) : Prop where
  s : d.showable = true
  dep : d.depth ≤ n
  c : cst d ≤ c
theorem shAll {α : Type} {f : α → PyData} {n c : Nat} : ∀ {xs : List α}, (∀ x ∈ xs, Sh (f x) n c) → PyData.showableAll (xs.map f) = true ∧ PyData.depthAll (xs.map f) ≤ n ∧ csts (xs.map f) ≤ (c + 4) * xs.length
  | [], _ => ⟨rfl, Nat.zero_le _, Nat.zero_le _⟩
  | x :: r, h => by
    obtain ⟨h1, h2, h3⟩ := shAll (xs := r) fun y hy => h y (List.mem_cons_of_mem _ hy)
    obtain ⟨g1, g2, g3⟩ := h x List.mem_cons_self
    refine ⟨?_, ?_, ?_⟩
    · simp only [List.map_cons, PyData.showableAll, g1, h1, Bool.and_self]
    · simp only [List.map_cons, PyData.depthAll]; omega
    · simp only [List.map_cons, csts, List.length_cons, Nat.mul_add, Nat.mul_one]; omega
theorem Sh.tup {α : Type} {f : α → PyData} {n c m k j : Nat} {xs : List α} (h : ∀ x ∈ xs, Sh (f x) n c) (hm : n + 1 ≤ m) (hl : xs.length ≤ j) (hk : (c + 4) * j + 4 ≤ k) : Sh (.tuple (xs.map f)) m k := by
  obtain ⟨h1, h2, h3⟩ := shAll h
  have h4 := Nat.mul_le_mul_left (c + 4) hl
  refine ⟨h1, ?_, ?_⟩
  · simp only [PyData.depth]; omega
  · show csts _ + 4 ≤ k; omega
theorem Sh.lst {α : Type} {f : α → PyData} {n c m k j : Nat} {xs : List α} (h : ∀ x ∈ xs, Sh (f x) n c) (hm : n + 1 ≤ m) (hl : xs.length ≤ j) (hk : (c + 4) * j + 4 ≤ k) : Sh (.list (xs.map f)) m k := by
  obtain ⟨h1, h2, h3⟩ := shAll h
  have h4 := Nat.mul_le_mul_left (c + 4) hl
  refine ⟨h1, ?_, ?_⟩
  · simp only [PyData.depth]; omega
  · show csts _ + 4 ≤ k; omega
theorem int_sh {i : Int} (h1 : -(10 ^ 100) ≤ i) (h2 : i ≤ 10 ^ 100) : Sh (.int i) 0 1921 := by
  refine ⟨?_, Nat.le_refl _, Nat.le_refl _⟩
  have : i.natAbs.log2 < 1920 := log_lt (by decide) (Nat.lt_of_le_of_lt (m := 10 ^ 100) (by omega) (by decide))
  simpa [PyData.showable] using this
theorem Sh.mono {d : PyData} {n c n' c' : Nat} (h : Sh d n c) (h1 : n ≤ n') (h2 : c ≤ c') : Sh d n' c' := ⟨h.s, Nat.le_trans h.dep h1, Nat.le_trans h.c h2⟩
theorem rep_ {K : PySem.W.Frag} {σ : L2.St} {H : Hp} {x : V} {d : PyData} {n c : Nat} {Q : VK} (hd : Dp K H x d) (s : Sh d n c) (hn : n ≤ 60 := by decide) (hc : c ≤ 10000000 := by decide) (q : Q (.str d.shown) H) :
    tNil σ H (fun xs H2 => (fun vs H1 => rRepr K vs H1 Q) (x :: xs) H2) :=
  ⟨x, d, rfl, hd, s.s, Nat.le_trans s.dep hn, shown_sz s.s (dp_noDict d x hd) (Nat.le_trans s.c hc), q⟩
theorem dps {α : Type} {K : PySem.W.Frag} {H : Hp} {g : α → V} {f : α → PyData} : ∀ {xs : List α}, (∀ x ∈ xs, Dp K H (g x) (f x)) → DpAll K H (xs.map g) (xs.map f)
  | [], _ => .nil
  | x :: r, h => .cons (h x List.mem_cons_self) (dps fun y hy => h y (List.mem_cons_of_mem _ hy))
theorem po_sh {b : Int} {o : Option Int} (h : ∀ l, o = some l → -b ≤ l ∧ l ≤ b) (hb : b ≤ 10 ^ 100) : Sh (po o) 0 1921 := by
  cases o with
  | none => exact ⟨rfl, Nat.le_refl _, by show 5 ≤ 1921; decide⟩
  | some i => have := h i rfl; exact int_sh (by omega) (by omega)
theorem pd_sh1 {b : Int} {d : Dd} (h : d.In b) (hb : b ≤ 10 ^ 100) : Sh (pd d) 1 6000 := by
  have := h.1; have := h.2.1
  refine Sh.tup (f := id) (n := 0) (c := 1921) (j := 3) (xs := [.int d.add, po d.low, po d.high]) ?_ (Nat.le_refl _) (Nat.le_refl _) (by decide)
  intro x hx
  simp only [List.mem_cons, List.mem_nil_iff, or_false] at hx
  rcases hx with rfl | rfl | rfl
  · exact int_sh (by omega) (by omega)
  · exact po_sh h.2.2.1 hb
  · exact po_sh h.2.2.2 hb
/-! ### boards and asks -/
def BoardAt (H : Hp) (b : Addr) (bs : List Int) : Prop := H b = some (.tup (bs.map V.int)) ∧ 1 ≤ bs.length ∧ bs.length ≤ 16
def Wi (c : Int) (bs : List Int) : Prop := ∀ x ∈ bs, -c ≤ x ∧ x ≤ c
theorem BoardAt.same {H H' : Hp} {b : Addr} {bs : List Int} (e : Same H H') (h : BoardAt H b bs) : BoardAt H' b bs := ⟨e _ _ h.1, h.2⟩
structure Ak where
  a : Addr
  hand : Int
  box : Nat
  da : Addr
  d : Dd
def Ak.vs (x : Ak) : List V := [.int x.hand, .int x.box, .ref x.da]
def Ak.at_ (H : Hp) (nb : Nat) (x : Ak) : Prop := H x.a = some (.tup x.vs) ∧ Da H x.da x.d ∧ 0 ≤ x.hand ∧ x.hand < 16 ∧ x.box < nb
def AsksAt (H : Hp) (k : Addr) (as : List Ak) (nb : Nat) : Prop := H k = some (.tup (as.map fun x => .ref x.a)) ∧ as.length ≤ 40 ∧ ∀ x ∈ as, x.at_ H nb
theorem Ak.at_.same {H H' : Hp} {nb : Nat} {x : Ak} (e : Same H H') (h : x.at_ H nb) : x.at_ H' nb := ⟨e _ _ h.1, h.2.1.same e, h.2.2⟩
theorem AsksAt.same {H H' : Hp} {k : Addr} {as : List Ak} {nb : Nat} (e : Same H H') (h : AsksAt H k as nb) : AsksAt H' k as nb := ⟨e _ _ h.1, h.2.1, fun x hx => (h.2.2 x hx).same e⟩
theorem Da.but {p : Addr} {ys : List V} {H H' : Hp} {a : Addr} {d : Dd} (e : But p H H') (hp : H p = some (.lst ys)) (h : Da H a d) : Da H' a d := ⟨e _ _ (ne_of h.1 hp (by intro z; cases z)) h.1, h.2⟩
theorem Ak.at_.but {p : Addr} {ys : List V} {H H' : Hp} {nb : Nat} {x : Ak} (e : But p H H') (hp : H p = some (.lst ys)) (h : x.at_ H nb) : x.at_ H' nb := ⟨e _ _ (ne_of h.1 hp (by intro z; cases z)) h.1, h.2.1.but e hp, h.2.2⟩
def Ak.pd (x : Ak) : PyData := .tuple [.int x.hand, .int x.box, Toy.pd x.d]
theorem Ak.at_.dp {K : PySem.W.Frag} {H : Hp} {nb : Nat} {x : Ak} (h : x.at_ H nb) : Dp K H (.ref x.a) x.pd := .tup (SqT.of h.1) (.cons (.int _) (.cons (.int _) (.cons h.2.1.dp .nil)))
theorem Ak.at_.sh {H : Hp} {nb : Nat} {x : Ak} (h : x.at_ H nb) (hn : nb ≤ 16) : Sh x.pd 2 19000 := by
  refine Sh.tup (f := id) (n := 1) (c := 6000) (j := 3) (xs := [.int x.hand, .int x.box, Toy.pd x.d]) ?_ (Nat.le_refl _) (Nat.le_refl _) (by decide)
  have := h.2.2
  intro y hy
  simp only [List.mem_cons, List.mem_nil_iff, or_false] at hy
  rcases hy with rfl | rfl | rfl
  · exact (int_sh (by omega) (by omega)).mono (by decide) (by decide)
  · exact (int_sh (by omega) (by omega)).mono (by decide) (by decide)
  · exact pd_sh1 h.2.1.2.1 (by decide)
def intsD (bs : List Int) : PyData := .tuple (bs.map PyData.int)
theorem ints_sh1 {bs : List Int} {c : Int} {n : Nat} (h : Wi c bs) (hc : c ≤ 10 ^ 100) (hn : bs.length ≤ n) : Sh (intsD bs) 1 (1925 * n + 4) :=
  Sh.tup (n := 0) (c := 1921) (j := n) (fun x hx => have := h x hx; int_sh (by omega) (by omega)) (Nat.le_refl _) hn (by omega)
theorem BoardAt.dp {K : PySem.W.Frag} {H : Hp} {b : Addr} {bs : List Int} (h : BoardAt H b bs) : Dp K H (.ref b) (intsD bs) := tupI_dp (SqT.of h.1)
def akD (as : List Ak) : PyData := .tuple (as.map Ak.pd)
theorem AsksAt.dp {K : PySem.W.Frag} {H : Hp} {k : Addr} {as : List Ak} {nb : Nat} (h : AsksAt H k as nb) : Dp K H (.ref k) (akD as) := .tup (SqT.of h.1) (dps fun x hx => (h.2.2 x hx).dp)
theorem AsksAt.sh {H : Hp} {k : Addr} {as : List Ak} {nb : Nat} (h : AsksAt H k as nb) (hn : nb ≤ 16) : Sh (akD as) 3 800000 :=
  Sh.tup (n := 2) (c := 19000) (j := 40) (fun x hx => (h.2.2 x hx).sh hn) (Nat.le_refl _) h.2.1 (by decide)
/-! ### asks played -/
def stepP (s : List Int × List Int) (x : Ak) : List Int × List Int := (s.1 ++ [s.2.getD x.box 0], s.2.set x.box (x.d.ap (s.2.getD x.box 0)))
def play (as : List Ak) (bs : List Int) : List Int × List Int := as.foldl stepP ([], bs)
theorem play_snoc {as : List Ak} {bs : List Int} {i : Nat} {x : Ak} (h : as[i]? = some x) : play (as.take (i + 1)) bs = stepP (play (as.take i) bs) x := by
  unfold play; rw [take_snoc h, List.foldl_append] <;> rfl
theorem Wi.set {c : Int} {bs : List Int} {i : Nat} {v : Int} (h : Wi c bs) (h1 : -c ≤ v) (h2 : v ≤ c) : Wi c (bs.set i v) := fun x hx => by
  rcases List.mem_or_eq_of_mem_set hx with h3 | h3
  · exact h x h3
  · subst h3; exact ⟨h1, h2⟩
theorem Wi.mono {c c' : Int} {bs : List Int} (h : Wi c bs) (e : c ≤ c') : Wi c' bs := fun x hx => by have := h x hx; omega
theorem Wi.get {c : Int} {bs : List Int} {i : Nat} (h : Wi c bs) (h0 : 0 ≤ c) : -c ≤ bs.getD i 0 ∧ bs.getD i 0 ≤ c := by
  rw [List.getD_eq_getElem?_getD]
  cases e : bs[i]? with
  | none => show -c ≤ 0 ∧ 0 ≤ c; omega
  | some x => exact h x (List.mem_of_getElem? e)
theorem snoc_ind {α : Type} {p : List α → Prop} (nil : p []) (snoc : ∀ l x, p l → p (l ++ [x])) (l : List α) : p l := by
  have h : ∀ l : List α, p l.reverse := fun l => by
    induction l with
    | nil => exact nil
    | cons x r ih => rw [List.reverse_cons]; exact snoc _ _ ih
  have := h l.reverse
  rwa [List.reverse_reverse] at this
theorem play_in {H : Hp} {nb : Nat} {bs : List Int} {c : Int} (hc : 0 ≤ c) (hb : Wi c bs) : ∀ {as : List Ak}, (∀ x ∈ as, x.at_ H nb) → (play as bs).1.length = as.length ∧ (play as bs).2.length = bs.length ∧ Wi (c + as.length * 10 ^ 80) (play as bs).1 ∧ Wi (c + as.length * 10 ^ 80) (play as bs).2 := by
  intro as
  induction as using snoc_ind with
  | nil => exact fun _ => ⟨rfl, rfl, (fun x hx => (nomatch hx)), hb.mono (by show c ≤ c + ((0 : Nat) : Int) * _; omega)⟩
  | snoc as x ih =>
    intro h
    obtain ⟨i1, i2, i3, i4⟩ := ih fun y hy => h y (List.mem_append_left _ hy)
    have hx := h x (List.mem_append_right _ List.mem_cons_self)
    have e : play (as ++ [x]) bs = stepP (play as bs) x := by unfold play; rw [List.foldl_append] <;> rfl
    have hg := i4.get (i := x.box) (by omega)
    have ha := ap_in (v := (play as bs).2.getD x.box 0) hx.2.1.2.1 hg.1 hg.2 (by omega)
    rw [e]
    have el : (((as ++ [x]).length : Nat) : Int) = as.length + 1 := by simp
    rw [el]
    refine ⟨?_, ?_, ?_, ?_⟩
    · show (_ ++ [_]).length = _; simp [i1]
    · show (List.set _ _ _).length = _; simp [i2]
    · intro y hy
      rcases List.mem_append.mp (show y ∈ _ ++ [_] from hy) with h3 | h3
      · have := i3 y h3; omega
      · have := List.mem_singleton.mp h3; subst this; omega
    · exact Wi.set (i4.mono (by omega)) (by omega) (by omega)
theorem menu8 : ∀ j : Nat, j < 8 → ∃ z : Int, ([.int 2147483629, .int 2147483587, .int 2147483579, .int 2147483563, .int 2147483549, .int 2147483543, .int 2147483497, .int 2147483489] : List V)[j]? = some (.int z) ∧ 0 < z ∧ z ≤ 2147483629
  | 0, _ => ⟨_, rfl, by decide, by decide⟩
  | 1, _ => ⟨_, rfl, by decide, by decide⟩
  | 2, _ => ⟨_, rfl, by decide, by decide⟩
  | 3, _ => ⟨_, rfl, by decide, by decide⟩
  | 4, _ => ⟨_, rfl, by decide, by decide⟩
  | 5, _ => ⟨_, rfl, by decide, by decide⟩
  | 6, _ => ⟨_, rfl, by decide, by decide⟩
  | 7, _ => ⟨_, rfl, by decide, by decide⟩
  | n + 8, h => absurd h (by omega)
theorem at3 {x0 x1 x2 : Int} : ∀ j : Nat, j < 3 → ∃ z : Int, ([.int x0, .int x1, .int x2] : List V)[j]? = some (.int z) ∧ (z = x0 ∨ z = x1 ∨ z = x2)
  | 0, _ => ⟨_, rfl, .inl rfl⟩
  | 1, _ => ⟨_, rfl, .inr (.inl rfl)⟩
  | 2, _ => ⟨_, rfl, .inr (.inr rfl)⟩
  | n + 3, h => absurd h (by omega)
theorem but_upd {p D : Addr} {H H1 : Hp} {o : HO} (n : H D = none) (a : But p H H1) : But p H (upd H1 D o) := fun b u hb e => by rw [upd_ne (ne_of_none e n)]; exact a b u hb e
theorem PotAt.upd {H : Hp} {p D : Addr} {o : HO} (n : p ≠ D) (h : PotAt H p) : PotAt (L2.upd H D o) p := by
  obtain ⟨a, b, h1, h2⟩ := h
  exact ⟨a, b, by rw [upd_ne n]; exact h1, h2⟩
theorem Wi.snoc {c : Int} {bs : List Int} {x : Int} (h : Wi c bs) (h1 : -c ≤ x) (h2 : x ≤ c) : Wi c (bs ++ [x]) := fun y hy => by
  rcases List.mem_append.mp hy with h3 | h3
  · exact h y h3
  · have := List.mem_singleton.mp h3; subst this; exact ⟨h1, h2⟩
theorem play_len {as : List Ak} {bs : List Int} : (play as bs).1.length = as.length ∧ (play as bs).2.length = bs.length := by
  induction as using snoc_ind with
  | nil => exact ⟨rfl, rfl⟩
  | snoc as x ih =>
    have e : play (as ++ [x]) bs = stepP (play as bs) x := by unfold play; rw [List.foldl_append] <;> rfl
    rw [e]
    refine ⟨?_, ?_⟩
    · show (_ ++ [_]).length = _; simp [ih.1]
    · show (List.set _ _ _).length = _; simp [ih.2]
theorem map_getD {us : List Int} {i : Nat} (h : i < us.length) : (us.map V.int)[i]? = some (.int (us.getD i 0)) := by
  rw [List.getElem?_map, List.getD_eq_getElem?_getD, List.getElem?_eq_getElem h] <;> rfl
/-- what is told of asks played -/
def TwoAt (H : Hp) (r : Addr) (s : List Int × List Int) : Prop := ∃ t1 t2, H r = some (.tup [.ref t1, .ref t2]) ∧ H t1 = some (.tup (s.1.map V.int)) ∧ H t2 = some (.tup (s.2.map V.int))
theorem TwoAt.same {H H' : Hp} {r : Addr} {s : List Int × List Int} (e : Same H H') (h : TwoAt H r s) : TwoAt H' r s := by
  obtain ⟨a, b, h1, h2, h3⟩ := h
  exact ⟨a, b, e _ _ h1, e _ _ h2, e _ _ h3⟩
def twoD (s : List Int × List Int) : PyData := .tuple [intsD s.1, intsD s.2]
theorem TwoAt.dp {K : PySem.W.Frag} {H : Hp} {r : Addr} {s : List Int × List Int} (h : TwoAt H r s) : Dp K H (.ref r) (twoD s) := by
  obtain ⟨a, b, h1, h2, h3⟩ := h
  exact .tup (SqT.of h1) (.cons (tupI_dp (SqT.of h2)) (.cons (tupI_dp (SqT.of h3)) .nil))
theorem play_sh {H : Hp} {k : Addr} {as : List Ak} {bs : List Int} {c : Int} (hk : AsksAt H k as bs.length) (hn : bs.length ≤ 16) (hw : Wi c bs) (h0 : 0 ≤ c) (hc : c ≤ 10 ^ 91) : Sh (twoD (play as bs)) 2 160000 := by
  obtain ⟨h1, h2, h3, h4⟩ := play_in h0 hw hk.2.2
  have h40 := hk.2.1
  have hb : c + (as.length : Int) * 10 ^ 80 ≤ 10 ^ 100 := by omega
  refine Sh.tup (f := id) (n := 1) (c := 77004) (j := 2) (xs := [intsD (play as bs).1, intsD (play as bs).2]) ?_ (Nat.le_refl _) (Nat.le_refl _) (by decide)
  intro x hx
  simp only [List.mem_cons, List.mem_nil_iff, or_false] at hx
  rcases hx with rfl | rfl
  · exact ints_sh1 (n := 40) h3 hb (by omega)
  · exact ints_sh1 (n := 40) h4 hb (by omega)
/-! ### data: figures of a number -/
def fig (k n at_ : Nat) : Int := Builtin.bitAnd ((n : Int) / 2 ^ (((k : Int) - 1 - at_).toNat)) 1
def figs (k n : Nat) : List Int := (List.range k).map (fig k n)
def num (fs : List Int) : Int := fs.foldl (fun f o => 2 * f + o) 0
def lline (k h g lv : Nat) : Int := num ((figs k g).take lv ++ (figs k h).drop lv)
def low (k h g lv : Nat) : Int := Builtin.bitOr ((g : Int) / 2 ^ ((k : Int) - lv).toNat * 2 ^ ((k : Int) - lv).toNat) (Builtin.bitAnd h (1 * 2 ^ ((k : Int) - lv).toNat - 1))
def nwo (k l st : Nat) : Int := Builtin.bitOr ((l : Int) / 2 ^ ((k : Int) - st + 1).toNat * 2 ^ ((k : Int) - st).toNat) (Builtin.bitAnd l (1 * 2 ^ ((k : Int) - st).toNat - 1))
def nums (k l st : Nat) : Int := num ((figs k l).take (st - 1) ++ (figs k l).drop st)
theorem low_is : ∀ k, k < 5 → ∀ h, h < 2 ^ k → ∀ g, g < 2 ^ k → ∀ lv, lv < k + 1 → low k h g lv = lline k h g lv := by decide +kernel
theorem lline_in : ∀ k, k < 5 → ∀ h, h < 2 ^ k → ∀ g, g < 2 ^ k → ∀ lv, lv < k + 1 → 0 ≤ lline k h g lv ∧ lline k h g lv < 2 ^ k := by decide +kernel
theorem nwo_is : ∀ k, k < 5 → ∀ l, l < 2 ^ k → ∀ st, st < k + 1 → st = 0 ∨ nwo k l st = nums k l st := by decide +kernel
theorem nums_same : ∀ k, k < 5 → ∀ h, h < 2 ^ k → ∀ g, g < 2 ^ k → ∀ st, st < k → nums k (lline k h g (st + 1)).toNat (st + 1) = nums k (lline k h g st).toNat (st + 1) := by decide +kernel
theorem cut_to {xs : List V} (n : Nat) : cutV xs none (some (n : Int)) = xs.take n := by
  unfold cutV
  rw [HT.sIx_nat, HT.sIx_none, List.drop_zero, Nat.sub_zero]
  by_cases c : n ≤ xs.length
  · rw [Nat.min_eq_left c]
  · rw [Nat.min_eq_right (by omega), List.take_length, List.take_of_length_le (by omega)]
theorem cut_from {xs : List V} (n : Nat) : cutV xs (some (n : Int)) none = xs.drop n := by
  unfold cutV
  rw [HT.sIx_nat, HT.sIx_none]
  by_cases c : n ≤ xs.length
  · rw [Nat.min_eq_left c]
    exact List.take_of_length_le (by rw [List.length_drop]; omega)
  · rw [Nat.min_eq_right (by omega), Nat.sub_self, List.take_zero, List.drop_of_length_le (by omega)]
theorem bits_one : Builtin.Int.intBits 1 ≤ 10 := by decide +kernel
theorem shl_ok {n : Nat} (h : n ≤ 1000) : CShl 1 (n : Int) := by
  have := bits_one
  exact ⟨by omega, by omega⟩
theorem shl_small {i j : Int} (h : i.natAbs < 2 ^ 64) (h0 : 0 ≤ j) (h1 : j ≤ 1000) : CShl i j := by
  refine ⟨h0, ?_⟩
  have h2 := log_lt (n := 64) (by decide) h
  unfold Builtin.Int.intBits
  split <;> omega
theorem div_small {g m : Nat} (h : g < 2 ^ 64) : ((g : Int) / 2 ^ m).natAbs < 2 ^ 64 := by
  have e : (g : Int) / 2 ^ m = ((g / 2 ^ m : Nat) : Int) := by push_cast; rfl
  rw [e, Int.natAbs_natCast]
  exact Nat.lt_of_le_of_lt (Nat.div_le_self _ _) h
theorem pow16 {k g : Nat} (hk : k ≤ 4) (h : g < 2 ^ k) : g < 16 := Nat.lt_of_lt_of_le h (Nat.pow_le_pow_right (by decide) hk : 2 ^ k ≤ 2 ^ 4)
def Bits (fs : List Int) : Prop := (∀ x ∈ fs, 0 ≤ x ∧ x ≤ 1) ∧ fs.length ≤ 10
theorem figs_all : ∀ k, k < 5 → ∀ n, n < 2 ^ k → (figs k n).all (fun x => decide (0 ≤ x) && decide (x ≤ 1)) = true := by decide +kernel
theorem figs_bits {k n : Nat} (h : k ≤ 4) (hn : n < 2 ^ k) : Bits (figs k n) := by
  have h1 := figs_all k (by omega) n hn
  rw [List.all_eq_true] at h1
  refine ⟨fun x hx => ?_, by unfold figs; rw [List.length_map, List.length_range]; omega⟩
  have := h1 x hx
  simpa using this
theorem Bits.cat {k : Nat} {xs ys : List Int} (h : k ≤ 4) (a : ∀ x ∈ xs, 0 ≤ x ∧ x ≤ 1) (b : ∀ x ∈ ys, 0 ≤ x ∧ x ≤ 1) (i j : Nat) (hx : xs.length ≤ 5) (hy : ys.length ≤ 5) : Bits (xs.take i ++ ys.drop j) := by
  refine ⟨fun x hm => ?_, by rw [List.length_append, List.length_take, List.length_drop]; omega⟩
  rcases List.mem_append.mp hm with h | h
  · exact a x (List.mem_of_mem_take h)
  · exact b x (List.mem_of_mem_drop h)
theorem num_snoc {fs : List Int} {x : Int} : num (fs ++ [x]) = 2 * num fs + x := by unfold num; rw [List.foldl_append] <;> rfl
theorem num_in : ∀ {fs : List Int} (n : Nat), Bits fs → 0 ≤ num (fs.take n) ∧ num (fs.take n) < 2 ^ n := by
  intro fs n h
  induction n with
  | zero => rw [List.take_zero]; exact ⟨by decide, by decide⟩
  | succ n ih =>
    by_cases c : n < fs.length
    · rw [List.take_succ_eq_append_getElem c, num_snoc]
      have := h.1 _ (List.getElem_mem c)
      have e : (2 : Int) ^ (n + 1) = 2 ^ n * 2 := Int.pow_succ 2 n
      omega
    · rw [List.take_of_length_le (by omega)]
      rw [List.take_of_length_le (by omega)] at ih
      have e : (2 : Int) ^ (n + 1) = 2 ^ n * 2 := Int.pow_succ 2 n
      omega
theorem figs_len {k n : Nat} : (figs k n).length = k := by unfold figs; rw [List.length_map, List.length_range]
theorem repF_len {n : Nat} : ((List.replicate n false).map V.bl).length = n := by rw [List.length_map, List.length_replicate]
theorem repF_snoc {n : Nat} : (List.replicate n false).map V.bl ++ [V.bl false] = (List.replicate (n + 1) false).map V.bl := by rw [List.replicate_succ', List.map_append] <;> rfl
theorem repF_any (n : Nat) : (List.replicate n false).any id = false := by
  induction n with
  | zero => rfl
  | succ n ih => rw [List.replicate_succ, List.any_cons, ih] <;> rfl
def SwAt (H : Hp) (T : Addr) (k h g : Nat) : Prop := ∃ as : List Addr, H T = some (.tup (as.map V.ref)) ∧ as.length = k ∧ ∀ (j : Nat) (a : Addr), as[j]? = some a → H a = some (.tup [.int ((j + 1 : Nat) : Int), .int (nwo k (lline k h g j).toNat (j + 1))])
theorem primes6 : ∀ j : Nat, j < 6 → ∃ z : Int, ([.int 2147483647, .int 2147483629, .int 2147483587, .int 2147483579, .int 2147483563, .int 2147483549] : List V)[j]? = some (.int z) ∧ 2147483549 ≤ z ∧ z ≤ 2147483647
  | 0, _ => ⟨_, rfl, by decide, by decide⟩
  | 1, _ => ⟨_, rfl, by decide, by decide⟩
  | 2, _ => ⟨_, rfl, by decide, by decide⟩
  | 3, _ => ⟨_, rfl, by decide, by decide⟩
  | 4, _ => ⟨_, rfl, by decide, by decide⟩
  | 5, _ => ⟨_, rfl, by decide, by decide⟩
  | n + 6, h => absurd h (by omega)
/-! ### rows of pairs -/
def PtsAt (H : Hp) (ts : List Addr) (ps : List (Nat × Nat)) : Prop := ts.length = ps.length ∧ ∀ (j : Nat) (t : Addr) (p : Nat × Nat), ts[j]? = some t → ps[j]? = some p → H t = some (.tup [.int (p.1 : Nat), .int (p.2 : Nat)])
theorem PtsAt.same {H H' : Hp} {ts : List Addr} {ps : List (Nat × Nat)} (e : Same H H') (h : PtsAt H ts ps) : PtsAt H' ts ps := ⟨h.1, fun j t p h1 h2 => e _ _ (h.2 j t p h1 h2)⟩
theorem PtsAt.app {H : Hp} {ts us : List Addr} {ps qs : List (Nat × Nat)} (a : PtsAt H ts ps) (b : PtsAt H us qs) : PtsAt H (ts ++ us) (ps ++ qs) := by
  refine ⟨by rw [List.length_append, List.length_append, a.1, b.1], fun j t p h1 h2 => ?_⟩
  by_cases c : j < ts.length
  · rw [List.getElem?_append_left c] at h1
    rw [List.getElem?_append_left (by rw [← a.1]; exact c)] at h2
    exact a.2 j t p h1 h2
  · rw [List.getElem?_append_right (by omega)] at h1
    rw [List.getElem?_append_right (by rw [← a.1]; omega)] at h2
    rw [← a.1] at h2
    exact b.2 _ t p h1 h2
theorem PtsAt.one {H : Hp} {t : Addr} {p : Nat × Nat} (h : H t = some (.tup [.int (p.1 : Nat), .int (p.2 : Nat)])) : PtsAt H [t] [p] := by
  refine ⟨rfl, fun j t' p' h1 h2 => ?_⟩
  cases j with
  | zero => cases (Option.some.inj h1); cases (Option.some.inj h2); exact h
  | succ j => simp at h1
theorem PtsAt.keep {H H' : Hp} {ts : List Addr} {ps : List (Nat × Nat)} (h : PtsAt H ts ps) (k : ∀ t xs, H t = some (.tup xs) → H' t = some (.tup xs)) : PtsAt H' ts ps :=
  ⟨h.1, fun j t p h1 h2 => k _ _ (h.2 j t p h1 h2)⟩
/-- each is a pair of a hand and a side -/
def APr (H : Hp) (k : Nat) (ts : List Addr) : Prop := ∀ t ∈ ts, ∃ h g : Nat, H t = some (.tup [.int (h : Nat), .int (g : Nat)]) ∧ h < 2 ^ k ∧ g < 2 ^ k
theorem APr.same {H H' : Hp} {k : Nat} {ts : List Addr} (e : Same H H') (a : APr H k ts) : APr H' k ts := fun t ht => by
  obtain ⟨h, g, h1, h2⟩ := a t ht
  exact ⟨h, g, e _ _ h1, h2⟩
theorem APr.keep {H H' : Hp} {k : Nat} {ts : List Addr} (e : ∀ t xs, H t = some (.tup xs) → H' t = some (.tup xs)) (a : APr H k ts) : APr H' k ts := fun t ht => by
  obtain ⟨h, g, h1, h2⟩ := a t ht
  exact ⟨h, g, e _ _ h1, h2⟩
theorem APr.sub {H : Hp} {k : Nat} {ts us : List Addr} (a : APr H k ts) (h : ∀ t ∈ us, t ∈ ts) : APr H k us := fun t ht => a t (h t ht)
theorem APr.app {H : Hp} {k : Nat} {ts us : List Addr} (a : APr H k ts) (b : APr H k us) : APr H k (ts ++ us) := fun t ht => (List.mem_append.mp ht).elim (a t) (b t)
theorem APr.pts {H : Hp} {k : Nat} : ∀ {ts : List Addr}, APr H k ts → ∃ ps, PtsAt H ts ps ∧ ∀ p ∈ ps, p.1 < 2 ^ k ∧ p.2 < 2 ^ k
  | [], _ => ⟨[], ⟨rfl, fun j t p h => by simp at h⟩, fun p hp => absurd hp List.not_mem_nil⟩
  | t :: ts, a => by
    obtain ⟨h, g, h1, h2, h3⟩ := a t List.mem_cons_self
    obtain ⟨ps, q1, q2⟩ := APr.pts (a.sub fun t ht => List.mem_cons_of_mem _ ht)
    refine ⟨(h, g) :: ps, PtsAt.app (ts := [t]) (ps := [(h, g)]) (PtsAt.one h1) q1, fun p hp => ?_⟩
    rcases List.mem_cons.mp hp with e | e
    · rw [e]; exact ⟨h2, h3⟩
    · exact q2 p e
theorem PtsAt.rev {H : Hp} {ts : List Addr} {ps : List (Nat × Nat)} (a : PtsAt H ts ps) : PtsAt H ts.reverse ps.reverse := by
  refine ⟨by rw [List.length_reverse, List.length_reverse, a.1], fun j t p h1 h2 => ?_⟩
  have l1 := (List.getElem?_eq_some_iff.mp h1).1
  have l2 := (List.getElem?_eq_some_iff.mp h2).1
  rw [List.length_reverse] at l1 l2
  rw [List.getElem?_reverse l1] at h1
  rw [List.getElem?_reverse l2] at h2
  rw [← a.1] at h2
  exact a.2 _ t p h1 h2
theorem APr.rev {H : Hp} {k : Nat} {ts : List Addr} (a : APr H k ts) : APr H k ts.reverse := a.sub fun t ht => List.mem_reverse.mp ht
/-! SPLIT -/
section
variable {P : Program} {w : World} {K : PySem.W.Frag} {mg : Str → Option Value} {base : Heap} (B : Bl K mg)
include B
/-! SPLIT -/
local macro_rules | `(tactic| walk_at "own") => `(tactic| fail)
local macro_rules | `(tactic| walk_at "sm") => `(tactic| first
  | with_reducible assumption
  | exact fun _ _ z => z
  | (apply Toy.same_bk; (with_reducible assumption); walk_at "sm")
  | solve_by_elim only [Toy.same_bk, *])
local macro_rules | `(tactic| walk_at "hp") => `(tactic| ((with_reducible refine (?_ : _ = some _)); first
  | with_reducible assumption
  | exact L2.upd_same
  | (apply Toy.hp_new; assumption; walk_at "hp")
  | (apply Toy.hp_at; (with_reducible assumption); walk_at "sm")))
local macro_rules | `(tactic| walk_at "sql") => `(tactic| first
  | with_reducible assumption
  | (apply L2.SqL.of; walk_at "hp")
  | (apply Toy.sql_at; (with_reducible assumption); walk_at "sm"))
local macro_rules | `(tactic| walk_at "sqt") => `(tactic| first
  | with_reducible assumption
  | (apply L2.SqT.of; walk_at "hp")
  | (apply Toy.sqt_at; (with_reducible assumption); walk_at "sm"))
local macro_rules | `(tactic| walk_at "ar") => `(tactic| first
  | with_reducible refine (?_ : (_ : Int) < _)
  | with_reducible refine (?_ : (_ : Int) ≤ _)
  | with_reducible refine (?_ : (_ : Nat) < _)
  | with_reducible refine (?_ : (_ : Nat) ≤ _)
  | with_reducible refine (?_ : (_ : Int) = _)
  | with_reducible refine (?_ : (_ : Nat) = _)
  | with_reducible refine (?_ : ¬ _)
  | with_reducible refine (?_ : _ ∧ _))
local macro_rules | `(tactic| walk_at "om") => `(tactic| (walk_at "ar"; omega))
local macro_rules | `(tactic| walk_at "num") => `(tactic| first
  | (walk_at "ar"; first
    | omega
    | (simp only [List.length_map, List.length_append, List.length_cons, List.length_nil, List.length_replicate, List.length_take, List.length_drop, List.length_range, List.length_set, List.length_reverse] <;> omega)
    | decide
    | (split <;> split <;> omega)
    | (split <;> omega))
  | decide)
local macro_rules | `(tactic| walk_at "side") => `(tactic| first
  | with_reducible rfl
  | walk_at "om"
  | with_reducible assumption
  | exact Toy.sz
  | (apply L2.SqL.of; walk_at "hp")
  | (apply L2.SqT.of; walk_at "hp")
  | (with_reducible apply Or.inl; walk_at "sql")
  | (with_reducible apply Or.inr; walk_at "sqt")
  | (with_reducible apply Exists.intro; walk_at "side")
  | walk_at "hp"
  | exact Eq.refl _
  | (apply Toy.lk1000; walk_at "num")
  | (apply Toy.lt1000; walk_at "num")
  | walk_at "num"
  | (apply Toy.lst_dp; apply L2.SqL.of; walk_at "hp")
  | (apply Toy.tupI_dp; apply L2.SqT.of; walk_at "hp")
  | exact Toy.ints_sh _
  | exact Toy.tupI_sh _
  | (apply L2.RgOk.of_le <;> walk_at "num")
  | (apply L2.atI_nat; assumption)
  | exact L2.Dp.lst (L2.SqL.of (by walk_at "hp")) L2.DpAll.nil
  | exact L2.Dp.tup (L2.SqT.of (by walk_at "hp")) L2.DpAll.nil
  | (apply Toy.ixn; walk_at "num")
  | exact Toy.tyL (by walk_at "hp")
  | walk_at "sql"
  | walk_at "sqt"
  | exact L2.ClsV.ty _
  | (apply L2.TyX.base; first | exact L2.TyOf.int _ | exact L2.TyOf.bl _ | exact L2.TyOf.non | exact L2.TyOf.str _ | (apply L2.TyOf.tup; walk_at "hp") | (apply L2.TyOf.lst; walk_at "hp"))
  | exact L2.kit_ty (r := true) (by decide +kernel)
  | exact L2.kit_ty (r := false) (by decide +kernel)
  | walk_at "own"
  | assumption
  | (walk_at "ar"; solve_by_elim only [Toy.hp_same, Toy.hp_new, L2.upd_same, *]))
local macro_rules | `(tactic| walk_at "go") => `(tactic| first
  | (apply And.intro; (focus (walk_at "side")); try walk_at "go")
  | (apply Exists.intro; rotate_left; (fail_if_success (with_reducible refine (?_ : Nat → _ → _))); (fail_if_success (with_reducible refine (?_ : L2.St → _ → _))); rotate_right; try walk_at "go")
  | (apply Or.inl; apply And.intro; (focus (walk_at "sql")); try walk_at "go")
  | (apply Or.inr; apply And.intro; (focus (walk_at "sqt")); try walk_at "go"))
/-! ENDM -/
/-! ### the program -/
def spIsWhole : Sp := fun vs H Q _ => ∃ i, vs = [.int i] ∧ Q (.bl true) H
theorem k_is_whole (D : Df K mg "is_whole" s_is_whole ["thing"]) : Dn P w K mg base 1 "is_whole" ["thing"] spIsWhole := by
  refine D.ok fun f fd F => okG0 F sc_is_whole (fun vs H Q E h => ?_) (fun cdv A outer s H vs Q E hr h => ⟨_, (pss_one (ps_ret (pe_and (pe_callB (kk (K := K) (F := rIsi) (P := CallR _ _) call_isi) (by rfl) B.isinstance_ (by decide +kernel) (pa_cons (pv 0) (pa_cons (pe_bltn (v := .ty "int") (u := .type "int") (by rfl) B.int_ (by decide +kernel) rfl) pa_nil))) (pe_one (pe_not (pe_callB (kk (K := K) (F := rIsi) (P := CallR _ _) call_isi) (by rfl) B.isinstance_ (by decide +kernel) (pa_cons (pv 0) (pa_cons (pe_bltn (v := .ty "bool") (u := .type "bool") (by rfl) B.bool_ (by decide +kernel) rfl) pa_nil)))))))), ?_⟩)
  · obtain ⟨i, rfl, _⟩ := h; rfl
  · obtain ⟨i, rfl, q⟩ := h
    refine ⟨_, rfl, _, _, _, _, _, rfl, .ty _, .base (.int _), kit_ty (b := "int") (r := true) (by decide +kernel), _, rfl, iteT ?_⟩
    refine ⟨_, rfl, _, _, _, _, _, rfl, .ty _, .base (.int _), kit_ty (b := "bool") (r := false) (by decide +kernel), _, rfl, ?_⟩
    exact q
def spIsRow (K : PySem.W.Frag) : Sp := fun vs H Q _ => ∃ (a : Addr) (xs : List V) (n : Int), vs = [.ref a, .int n] ∧ TyX K H (.ref a) (.type "tuple") ∧ SqT K H a xs ∧ Q (.bl (decide (V.int (xs.length : Int) = V.int n))) H
theorem k_is_row_of (D : Df K mg "is_row_of" s_is_row_of ["thing", "many"]) : Dn P w K mg base 1 "is_row_of" ["thing", "many"] (spIsRow K) := by
  refine D.ok fun f fd F => okG0 F sc_is_row_of (fun vs H Q E h => ?_) (fun cdv A outer s H vs Q E hr h => ⟨_, (pss_one (ps_ret (pe_and (pe_callB (kk (K := K) (F := rIsi) (P := CallR _ _) call_isi) (by rfl) B.isinstance_ (by decide +kernel) (pa_cons (pv 0) (pa_cons (pe_bltn (v := .ty "tuple") (u := .type "tuple") (by rfl) B.tuple_ (by decide +kernel) rfl) pa_nil))) (pe_one (pe_cmpR op_eq (pe_callB (lenK (K := K)) (by rfl) B.len_ (by decide +kernel) (pa_cons (pv 0) pa_nil)) (pv 1) (nomark _)))))), ?_⟩)
  · obtain ⟨a, xs, i, rfl, _⟩ := h; rfl
  · obtain ⟨a, xs, i, rfl, ht, hx, q⟩ := h
    refine ⟨_, rfl, _, _, _, _, _, rfl, .ty _, ht, kit_ty (b := "tuple") (r := true) (by decide +kernel), _, rfl, iteT ?_⟩
    exact ⟨_, rfl, a, xs, rfl, .inr hx, _, rfl, rfl, q⟩
def spIsEnd : Sp := fun vs H Q _ => ∃ o, vs = [oV o] ∧ Q (.bl true) H
theorem k_is_end (D : Df K mg "is_end" s_is_end ["thing"]) (D_is_whole : Dn P w K mg base 1 "is_whole" ["thing"] spIsWhole) : Dn P w K mg base 2 "is_end" ["thing"] spIsEnd := by
  refine D.ok fun f fd F => okG0 F sc_is_end (fun vs H Q E h => ?_) (fun cdv A outer s H vs Q E hr h => ⟨_, (pss_one (ps_ret (pe_or (pe_cmpR op_isN (pv 0) pe_non (nomark _)) (pe_one (pe_cD D_is_whole (hr.less (by decide)) rfl (pa_cons (pv 0) pa_nil)))))), ?_⟩)
  · obtain ⟨i, rfl, _⟩ := h; rfl
  · obtain ⟨o, rfl, q⟩ := h
    cases o with
    | none => exact ⟨_, rfl, rfl, _, rfl, iteT q⟩
    | some i => exact ⟨_, rfl, rfl, _, rfl, iteF ⟨_, rfl, i, rfl, q⟩⟩
def spIsDeed (K : PySem.W.Frag) : Sp := fun vs H Q _ => ∃ a d, vs = [.ref a] ∧ DeedArg K H a d ∧ Q (.bl true) H
theorem k_is_deed (D : Df K mg "is_deed" s_is_deed ["thing"]) (D_is_whole : Dn P w K mg base 1 "is_whole" ["thing"] spIsWhole) (D_is_row_of : Dn P w K mg base 1 "is_row_of" ["thing", "many"] (spIsRow K)) (D_is_end : Dn P w K mg base 2 "is_end" ["thing"] spIsEnd) : Dn P w K mg base 3 "is_deed" ["thing"] (spIsDeed K) := by
  refine D.ok fun f fd F => okG0 F sc_is_deed (fun vs H Q E h => ?_) (fun cdv A outer s H vs Q E hr h => ⟨_, (pss_cons (ps_if (PW.pt (pw_or (pt_not (pt_val (pe_cD D_is_row_of (hr.less (by decide)) rfl (pa_cons (pv 0) (pa_cons pe_int pa_nil))))) (pw_or (pt_not (pt_val (pe_cD D_is_whole (hr.less (by decide)) rfl (pa_cons (pe_ix (kk (K := K) (F := rIxT) (P := IxR _) ix_tup) (pv 0) pe_int (fun _ _ => rfl)) pa_nil)))) (pw_or (pt_not (pt_val (pe_cD D_is_end (hr.less (by decide)) rfl (pa_cons (pe_ix (kk (K := K) (F := rIxT) (P := IxR _) ix_tup) (pv 0) pe_int (fun _ _ => rfl)) pa_nil)))) (pw_or1 (pt_not (pt_val (pe_cD D_is_end (hr.less (by decide)) rfl (pa_cons (pe_ix (kk (K := K) (F := rIxT) (P := IxR _) ix_tup) (pv 0) pe_int (fun _ _ => rfl)) pa_nil)))))))))
      (pss_one (ps_ret pe_bl))
      pss_nil)
    (pss_cons (ps_asg (pv 0) (kk (K := K) (F := fun K => gTup K 3 _) (P := PG _ _) (pg_tup rfl (pgs_cons (pg_name (i := 1) sc_is_deed.nd rfl (Or.inl rfl)) (pgs_cons (pg_name (i := 2) sc_is_deed.nd rfl (Or.inl rfl)) (pgs_cons (pg_name (i := 3) sc_is_deed.nd rfl (Or.inl rfl)) pgs_nil))))))
    (pss_cons (ps_if (PW.pt (pw_or (pt_cmpR op_isN (pv 2) pe_non (nomark _)) (pw_or1 (pt_cmpR op_isN (pv 3) pe_non (nomark _)))))
      (pss_one (ps_ret pe_bl))
      pss_nil)
    (pss_one (ps_ret (pe_or (pe_cmpR op_lt (pv 2) (pv 3) (nomark _)) (pe_one (pe_and (pe_cmpR op_eq (pv 2) (pv 3) (nomark _)) (pe_one (pe_cmpR op_eq (pv 1) pe_int (nomark _))))))))))), ?_⟩)
  · obtain ⟨a, d, rfl, _⟩ := h; rfl
  · obtain ⟨a, d, rfl, ⟨ht, hx, ok⟩, q⟩ := h
    refine ⟨_, rfl, a, _, 3, rfl, ht, hx, _, rfl, iteF ?_⟩
    refine ⟨_, rfl, a, _, _, _, rfl, rfl, hx, at_of (j := 0) rfl rfl, _, rfl, _, rfl, iteF ?_⟩
    refine ⟨_, rfl, a, _, _, _, rfl, rfl, hx, at_of (j := 1) rfl rfl, d.low, rfl, _, rfl, iteF ?_⟩
    refine ⟨_, rfl, a, _, _, _, rfl, rfl, hx, at_of (j := 2) rfl rfl, d.high, rfl, _, rfl, iteF ?_⟩
    refine ⟨_, rfl, a, _, rfl, hx, rfl, _, _, rfl, _, _, rfl, _, _, rfl, rfl, ?_⟩
    obtain ⟨add, low, high⟩ := d
    cases low with
    | none => exact ⟨_, rfl, rfl, _, rfl, iteT (iteT q)⟩
    | some l =>
      refine ⟨_, rfl, rfl, _, rfl, iteF ?_⟩
      cases high with
      | none => exact ⟨_, rfl, rfl, _, rfl, iteT q⟩
      | some h =>
        refine ⟨_, rfl, rfl, _, rfl, iteF ?_⟩
        refine ⟨_, rfl, _, rfl, _, _, rfl, rfl, _, rfl, ite2 (fun c => q) (fun c => ?_)⟩
        have := ok l h rfl rfl
        have c' : ¬ l < h := of_decide_eq_false (Bool.eq_false_iff.mpr c)
        obtain ⟨e1, e2⟩ : l = h ∧ add = 0 := by
          rcases this with h1 | h1
          · exact absurd h1 c'
          · exact h1
        subst e1 e2
        refine ⟨_, rfl, _, rfl, rfl, _, rfl, ?_⟩
        exact ifT (decide_eq_true rfl) ⟨_, rfl, rfl, q⟩
def spPut (K : PySem.W.Frag) : Sp := fun vs H Q _ => ∃ a d v, vs = [.ref a, .int v] ∧ SqT K H a (Dd.vs d) ∧ Q (.int (d.ap v)) H
theorem k_put_through (D : Df K mg "put_through" s_put_through ["deed", "value"]) : Dn P w K mg base 1 "put_through" ["deed", "value"] (spPut K) := by
  refine D.ok fun f fd F => okG0 F sc_put_through (fun vs H Q E h => ?_) (fun cdv A outer s H vs Q E hr h => ⟨_, (pss_cons (ps_asg (pv 0) (kk (K := K) (F := fun K => gTup K 3 _) (P := PG _ _) (pg_tup rfl (pgs_cons (pg_name (i := 2) sc_put_through.nd rfl (Or.inl rfl)) (pgs_cons (pg_name (i := 3) sc_put_through.nd rfl (Or.inl rfl)) (pgs_cons (pg_name (i := 4) sc_put_through.nd rfl (Or.inl rfl)) pgs_nil))))))
    (pss_cons (ps_set (i := 5) sc_put_through.nd rfl (Or.inl rfl) (pe_op op_add (pv 1) (pv 2)))
    (pss_cons (ps_if (pt_cmpR op_notN (pv 3) pe_non (nomark _))
      (pss_one (ps_set (i := 5) sc_put_through.nd rfl (Or.inl rfl) (pe_callB (call_max2 rfl) (by rfl) B.max_ (by decide +kernel) (pa_cons (pv 3) (pa_cons (pv 5) pa_nil)))))
      pss_nil)
    (pss_one (ps_ret (pe_ifExp (pt_cmpR op_isN (pv 4) pe_non (nomark _)) (pv 5) (pe_callB (call_min2 rfl) (by rfl) B.min_ (by decide +kernel) (pa_cons (pv 4) (pa_cons (pv 5) pa_nil))))))))), ?_⟩)
  · obtain ⟨a, d, v, rfl, _⟩ := h; rfl
  · obtain ⟨a, d, v, rfl, hx, q⟩ := h
    refine ⟨_, rfl, a, _, rfl, hx, rfl, _, _, rfl, _, _, rfl, _, _, rfl, rfl, ?_⟩
    refine ⟨_, rfl, _, rfl, _, _, rfl, rfl, ?_⟩
    obtain ⟨add, low, high⟩ := d
    cases low with
    | none =>
      refine ⟨_, rfl, rfl, _, rfl, iteF ?_⟩
      cases high with
      | none => exact ⟨_, rfl, rfl, _, rfl, iteT ⟨_, rfl, q⟩⟩
      | some h => exact ⟨_, rfl, rfl, _, rfl, iteF ⟨_, rfl, _, rfl, _, _, rfl, q⟩⟩
    | some l =>
      refine ⟨_, rfl, rfl, _, rfl, iteT ⟨_, rfl, _, rfl, _, _, rfl, ?_⟩⟩
      cases high with
      | none => exact ⟨_, rfl, rfl, _, rfl, iteT ⟨_, rfl, q⟩⟩
      | some h => exact ⟨_, rfl, rfl, _, rfl, iteF ⟨_, rfl, _, rfl, _, _, rfl, q⟩⟩
def spWholeDeed : Sp := fun vs H Q _ => ∃ (add : Int) (low high : Option Int), vs = [.int add, oV low, oV high] ∧ NewD H Q (wholeD add low high)
theorem k_whole_deed (D : Df K mg "whole_deed" s_whole_deed ["add", "low", "high"]) : Dn P w K mg base 1 "whole_deed" ["add", "low", "high"] spWholeDeed := by
  refine D.ok fun f fd F => okG0 F sc_whole_deed (fun vs H Q E h => ?_) (fun cdv A outer s H vs Q E hr h => ⟨_, (pss_cons (ps_if (PW.pt (pw_and (pt_cmpR op_notN (pv 1) pe_non (nomark _)) (pw_and1 (pt_cmpR op_eq (pv 1) (pv 2) (nomark _)))))
      (pss_one (ps_ret (pe_tup (pa_cons pe_int (pa_cons (pv 1) (pa_cons (pv 2) pa_nil))))))
      pss_nil)
    (pss_one (ps_ret (pe_tup (pa_cons (pv 0) (pa_cons (pv 1) (pa_cons (pv 2) pa_nil))))))), ?_⟩)
  · obtain ⟨add, low, high, rfl, _⟩ := h; rfl
  · obtain ⟨add, low, high, rfl, q⟩ := h
    have key : ∀ d : Dd, wholeD add low high = d → tRet (tTup (tCons (tC (.int d.add)) (tCons (tC (oV d.low)) (tCons (tC (oV d.high)) tNil)))) { nx := fun _ H' => Q .non H', rt := Q } (start ["add", "low", "high"] [.int add, oV low, oV high]) H := by
      rintro d rfl
      exact ⟨sz, fun p hp => q p _ (same_new hp _) hp upd_same⟩
    cases low with
    | none =>
      refine ⟨_, rfl, rfl, _, rfl, iteF (iteF ?_)⟩
      have := key ⟨add, none, high⟩ (if_neg fun z => z.1 rfl)
      exact ⟨_, rfl, _, rfl, _, rfl, this⟩
    | some l =>
      refine ⟨_, rfl, rfl, _, rfl, iteT ⟨_, rfl, _, rfl, ?_⟩⟩
      cases high with
      | none =>
        have := key ⟨add, some l, none⟩ (if_neg fun z => nomatch z.2)
        exact ⟨rfl, _, rfl, iteF ⟨_, rfl, _, rfl, _, rfl, this⟩⟩
      | some h =>
        refine ⟨rfl, _, rfl, ite2 (fun c => ?_) (fun c => ?_)⟩
        · have c' : l = h := by have := of_decide_eq_true c; cases this; rfl
          have := key ⟨0, some l, some h⟩ (if_pos ⟨Option.some_ne_none l, by rw [c']⟩)
          exact ⟨_, rfl, _, rfl, this⟩
        · have c' : ¬ l = h := fun e => c (decide_eq_true (by rw [e]))
          have := key ⟨add, some l, some h⟩ (if_neg fun z => c' (Option.some.inj z.2))
          exact ⟨_, rfl, _, rfl, _, rfl, this⟩
def spBehind (K : PySem.W.Frag) : Sp := fun vs H Q _ => ∃ (a b : Addr) (d e : Dd), vs = [.ref a, .ref b] ∧ SqT K H a d.vs ∧ SqT K H b e.vs ∧ NewD H Q (beh d e)
theorem k_one_behind (D : Df K mg "one_behind" s_one_behind ["one", "other"]) (D_put_through : Dn P w K mg base 1 "put_through" ["deed", "value"] (spPut K)) (D_whole_deed : Dn P w K mg base 1 "whole_deed" ["add", "low", "high"] spWholeDeed) : Dn P w K mg base 2 "one_behind" ["one", "other"] (spBehind K) := by
  refine D.ok fun f fd F => okG0 F sc_one_behind (fun vs H Q E h => ?_) (fun cdv A outer s H vs Q E hr h => ⟨_, (pss_cons (ps_par (i := 2) (j := 3) rfl sc_one_behind.nd rfl rfl (by decide) rfl rfl (pa_cons (pe_ix (kk (K := K) (F := rIxT) (P := IxR _) ix_tup) (pv 1) pe_int (fun _ _ => rfl)) (pa_cons (pe_ix (kk (K := K) (F := rIxT) (P := IxR _) ix_tup) (pv 1) pe_int (fun _ _ => rfl)) pa_nil)) (by rfl))
    (pss_cons (ps_if (pt_cmpR op_notN (pe_ix (kk (K := K) (F := rIxT) (P := IxR _) ix_tup) (pv 0) pe_int (fun _ _ => rfl)) pe_non (nomark _))
      (pss_one (ps_set (i := 2) sc_one_behind.nd rfl (Or.inl rfl) (pe_cD D_put_through (hr.less (by decide)) rfl (pa_cons (pv 1) (pa_cons (pe_ix (kk (K := K) (F := rIxT) (P := IxR _) ix_tup) (pv 0) pe_int (fun _ _ => rfl)) pa_nil)))))
      pss_nil)
    (pss_cons (ps_if (pt_cmpR op_notN (pe_ix (kk (K := K) (F := rIxT) (P := IxR _) ix_tup) (pv 0) pe_int (fun _ _ => rfl)) pe_non (nomark _))
      (pss_one (ps_set (i := 3) sc_one_behind.nd rfl (Or.inl rfl) (pe_cD D_put_through (hr.less (by decide)) rfl (pa_cons (pv 1) (pa_cons (pe_ix (kk (K := K) (F := rIxT) (P := IxR _) ix_tup) (pv 0) pe_int (fun _ _ => rfl)) pa_nil)))))
      pss_nil)
    (pss_one (ps_ret (pe_cD D_whole_deed (hr.less (by decide)) rfl (pa_cons (pe_op op_add (pe_ix (kk (K := K) (F := rIxT) (P := IxR _) ix_tup) (pv 0) pe_int (fun _ _ => rfl)) (pe_ix (kk (K := K) (F := rIxT) (P := IxR _) ix_tup) (pv 1) pe_int (fun _ _ => rfl))) (pa_cons (pv 2) (pa_cons (pv 3) pa_nil))))))))), ?_⟩)
  · obtain ⟨a, b, d, e, rfl, _⟩ := h; rfl
  · obtain ⟨a, b, d, e, rfl, ha, hb, q⟩ := h
    refine ⟨_, rfl, b, _, _, _, rfl, rfl, hb, at_of (j := 1) rfl rfl, _, rfl, b, _, _, _, rfl, rfl, hb, at_of (j := 2) rfl rfl, _, _, rfl, ?_⟩
    refine ⟨_, rfl, a, _, _, _, rfl, rfl, ha, at_of (j := 1) rfl rfl, rfl, _, rfl, ?_⟩
    have fin : ∀ lo hi : Option Int, endBeh e d.low e.low = lo → endBeh e d.high e.high = hi → tRet (tCall spWholeDeed [] E0 (tCons (tOp (rI0 fun i j => V.int (i + j)) (tOp (rIxT K) (tVar 0) (tC (.int 0))) (tOp (rIxT K) (tVar 1) (tC (.int 0)))) (tCons (tVar 2) (tCons (tVar 3) tNil)))) { nx := fun _ H' => Q .non H', rt := Q }
        [some (.ref a), some (.ref b), some (oV lo), some (oV hi)] H := by
      rintro _ _ rfl rfl
      exact ⟨_, rfl, a, _, _, _, rfl, rfl, ha, at_of (j := 0) rfl rfl, _, rfl, b, _, _, _, rfl, rfl, hb, at_of (j := 0) rfl rfl, _, _, rfl, rfl, _, rfl, _, rfl, _, _, _, rfl, q⟩
    have hi : ∀ lo : Option Int, endBeh e d.low e.low = lo → tSeq (tIfS (tTest (tOp (fun x y H Q => y = V.non ∧ Q (V.bl (!decide (x = V.non))) H) (tOp (rIxT K) (tVar 0) (tC (.int 2))) (tC .non))) (tAsg (tCall (spPut K) [] E0 (tCons (tVar 1) (tCons (tOp (rIxT K) (tVar 0) (tC (.int 2))) tNil))) (gName 3)) tNext)
        (tRet (tCall spWholeDeed [] E0 (tCons (tOp (rI0 fun i j => V.int (i + j)) (tOp (rIxT K) (tVar 0) (tC (.int 0))) (tOp (rIxT K) (tVar 1) (tC (.int 0)))) (tCons (tVar 2) (tCons (tVar 3) tNil))))) { nx := fun _ H' => Q .non H', rt := Q }
        [some (.ref a), some (.ref b), some (oV lo), some (oV e.high)] H := by
      intro lo hlo
      refine ⟨_, rfl, a, _, _, _, rfl, rfl, ha, at_of (j := 2) rfl rfl, rfl, _, rfl, ?_⟩
      cases eh : d.high with
      | none => exact iteF (fin lo e.high hlo (by rw [eh] <;> rfl))
      | some k =>
        refine iteT ⟨_, rfl, _, rfl, a, _, _, _, rfl, rfl, ha, at_of (j := 2) rfl rfl, b, e, k, by rw [eh] <;> rfl, hb, ?_⟩
        exact fin lo (some _) hlo (by rw [eh] <;> rfl)
    cases el : d.low with
    | none => exact iteF (hi e.low (by rw [el] <;> rfl))
    | some k =>
      refine iteT ⟨_, rfl, _, rfl, a, _, _, _, rfl, rfl, ha, at_of (j := 1) rfl rfl, b, e, k, by rw [el] <;> rfl, hb, ?_⟩
      exact hi (some _) (by rw [el] <;> rfl)
def spIsWithin : Sp := fun vs H Q _ => ∃ i a b : Int, vs = [.int i, .int a, .int b] ∧ a ≤ i ∧ i ≤ b ∧ Q (.bl true) H
theorem k_is_within (D : Df K mg "is_within" s_is_within ["thing", "least", "most"]) (D_is_whole : Dn P w K mg base 1 "is_whole" ["thing"] spIsWhole) : Dn P w K mg base 2 "is_within" ["thing", "least", "most"] spIsWithin := by
  refine D.ok fun f fd F => okG0 F sc_is_within (fun vs H Q E h => ?_) (fun cdv A outer s H vs Q E hr h => ⟨_, (pss_one (ps_ret (pe_and (pe_cD D_is_whole (hr.less (by decide)) rfl (pa_cons (pv 0) pa_nil)) (pe_one (pe_chain op_le op_le (pv 1) (pv 0) (pv 2)))))), ?_⟩)
  · obtain ⟨i, a, b, rfl, _⟩ := h; rfl
  · obtain ⟨i, a, b, rfl, h1, h2, q⟩ := h
    refine ⟨_, rfl, i, rfl, _, rfl, iteT ?_⟩
    refine ⟨_, rfl, _, rfl, _, _, rfl, rfl, _, rfl, ifT (decide_eq_true h1) ⟨_, rfl, _, _, rfl, rfl, ?_⟩⟩
    exact (show Q (.bl (decide (i ≤ b))) H by rw [decide_eq_true h2]; exact q)
def spWantNet : Sp := fun vs H Q _ => ∃ i d : Int, vs = [.int i, .int d] ∧ 0 ≤ i ∧ i ≤ d ∧ Q .non H
theorem k_want_net (D : Dfd K mg "want_net" s_want_net ["k", "deepest"] [.int 4]) (D_is_within : Dn P w K mg base 2 "is_within" ["thing", "least", "most"] spIsWithin) : DnD P w K mg base 3 "want_net" ["k", "deepest"] [.int 4] spWantNet := by
  refine D.ok fun f fd F => okG0A F sc_want_net (fun vs H Q E h => ?_) (fun cdv A outer s H vs Q E hr h => ⟨_, (pss_one (ps_if (pt_not (pt_truth (pe_cD D_is_within (hr.less (by decide)) rfl (pa_cons (pv 0) (pa_cons pe_int (pa_cons (pv 1) pa_nil)))) (by intro _; rfl)))
     (pss_one ps_never)
     pss_nil)), ?_⟩)
  · obtain ⟨i, d, rfl, _⟩ := h; rfl
  · obtain ⟨i, d, rfl, h1, h2, q⟩ := h
    exact ⟨_, rfl, _, rfl, i, 0, d, rfl, h1, h2, _, rfl, iteF q⟩
def spWantWithin : Sp := fun vs H Q _ => ∃ i a b : Int, vs = [.int i, .int a, .int b] ∧ a ≤ i ∧ i ≤ b ∧ Q .non H
theorem k_want_within (D : Df K mg "want_within" s_want_within ["thing", "least", "most"]) (D_is_within : Dn P w K mg base 2 "is_within" ["thing", "least", "most"] spIsWithin) : Dn P w K mg base 3 "want_within" ["thing", "least", "most"] spWantWithin := by
  refine D.ok fun f fd F => okG0 F sc_want_within (fun vs H Q E h => ?_) (fun cdv A outer s H vs Q E hr h => ⟨_, (pss_one (ps_if (pt_not (pt_truth (pe_cD D_is_within (hr.less (by decide)) rfl (pa_cons (pv 0) (pa_cons (pv 1) (pa_cons (pv 2) pa_nil)))) (by intro _; rfl)))
     (pss_one ps_never)
     pss_nil)), ?_⟩)
  · obtain ⟨i, a, b, rfl, _⟩ := h; rfl
  · obtain ⟨i, a, b, rfl, h1, h2, q⟩ := h
    exact ⟨_, rfl, _, rfl, _, rfl, i, a, b, rfl, h1, h2, _, rfl, iteF q⟩
def spIsBoard (K : PySem.W.Frag) : Sp := fun vs H Q _ => ∃ (b : Addr) (bs : List Int), vs = [.ref b] ∧ BoardAt H b bs ∧ ∀ H', Same H H' → Q (.bl true) H'
theorem k_is_board (D : Df K mg "is_board" s_is_board ["thing"]) (D_is_whole : Dn P w K mg base 1 "is_whole" ["thing"] spIsWhole) : Dn P w K mg base 2 "is_board" ["thing"] (spIsBoard K) := by
  refine D.ok fun f fd F => okG0 F sc_is_board (fun vs H Q E h => ?_) (fun cdv A outer s H vs Q E hr h => ⟨_, (pss_one (ps_ret (pe_and (pe_callB (kk (K := K) (F := rIsi) (P := CallR _ _) call_isi) (by rfl) B.isinstance_ (by decide +kernel) (pa_cons (pv 0) (pa_cons (pe_bltn (v := .ty "tuple") (u := .type "tuple") (by rfl) B.tuple_ (by decide +kernel) rfl) pa_nil))) (pe_and (pe_chain op_le op_le pe_int (pe_callB (lenK (K := K)) (by rfl) B.len_ (by decide +kernel) (pa_cons (pv 0) pa_nil)) (pe_glob (v := .int (16)) (u := .int (16) B.MOST_BOXES_.choose) (by rfl) B.MOST_BOXES_.choose_spec ⟨_, rfl⟩)) (pe_one (pe_callB (kk (K := K) (F := rAll) (P := CallR _ _) (cr_all rfl)) (by rfl) B.all_ (by decide +kernel) (pa_cons (pe_lc (own := [("value", 1)]) (g := gName 1) (tt := tYes) rfl sc_is_board.nd (kk (K := K) (F := fun K => iTup K _) (P := PI _ _ _) (pi_tup (pv 0))) (blkOk_by (own := [("value", 1)]) (N := ["thing", "value"]) (sc := defScope s_is_board) (by decide +kernel)) (fun _ _ _ _ _ => (pg_name (i := 1) sc_is_board.nd rfl (Or.inl rfl))) (fun _ _ _ _ _ => pts_nil) (fun _ _ _ _ _ => (pe_cD D_is_whole (hr.less (by decide)) rfl (pa_cons (pv 1) pa_nil)))) pa_nil))))))), ?_⟩)
  · obtain ⟨b, bs, rfl, _⟩ := h; rfl
  · obtain ⟨b, bs, rfl, hb, q⟩ := h
    have hl := hb.2
    refine ⟨_, rfl, _, _, _, _, _, rfl, .ty _, .base (.tup hb.1), kit_ty (b := "tuple") (r := true) (by decide +kernel), _, rfl, iteT ?_⟩
    refine ⟨_, rfl, b, _, rfl, .inr (SqT.of hb.1), ?_⟩
    refine ⟨_, _, rfl, rfl, _, rfl, ifT (by rw [List.length_map]; exact decide_eq_true (by omega)) ?_⟩
    refine ⟨_, _, rfl, rfl, _, rfl, ifT (by rw [List.length_map]; exact decide_eq_true (by omega)) ?_⟩
    refine ⟨_, rfl, b, rfl, ⟨_, SqT.of hb.1⟩, fun D hD => ?_⟩
    refine lc_tup (K := K) (a := b) (xs := bs.map V.int) (fun i H2 => Same H H2 ∧ H2 D = some (.lst ((List.replicate i true).map V.bl))) ⟨same_new hD _, upd_same⟩ (fun i H2 _ h => SqT.of (h.1 _ _ hb.1)) ?_ ?_
    · rintro i y H2 hi ⟨S2, hD2⟩
      obtain ⟨x, rfl, hx⟩ := at_map hi
      have hi2 : i < bs.length := (List.getElem?_eq_some_iff.mp hx).1
      refine ⟨rfl, ?_⟩
      exact ⟨_, rfl, x, rfl, _, hD2, by rw [rep_len]; exact small1000 (by omega), but_same hD S2 But.upd, by rw [upd_same, rep_snoc]⟩
    · rintro H2 ⟨S2, hD2⟩
      refine ⟨D, _, rfl, SqL.of hD2, ?_⟩
      rw [rep_all]
      exact q _ S2
def spWantBoard (K : PySem.W.Frag) : Sp := fun vs H Q _ => ∃ (b : Addr) (bs : List Int), vs = [.ref b] ∧ BoardAt H b bs ∧ ∀ H', Same H H' → Q .non H'
theorem k_want_board (D : Df K mg "want_board" s_want_board ["board"]) (D_is_board : Dn P w K mg base 2 "is_board" ["thing"] (spIsBoard K)) : Dn P w K mg base 3 "want_board" ["board"] (spWantBoard K) := by
  refine D.ok fun f fd F => okG0 F sc_want_board (fun vs H Q E h => ?_) (fun cdv A outer s H vs Q E hr h => ⟨_, (pss_one (ps_if (pt_not (pt_val (pe_cD D_is_board (hr.less (by decide)) rfl (pa_cons (pv 0) pa_nil))))
     (pss_one ps_never)
     pss_nil)), ?_⟩)
  · obtain ⟨b, bs, rfl, _⟩ := h; rfl
  · obtain ⟨b, bs, rfl, hb, q⟩ := h
    exact ⟨_, rfl, b, bs, rfl, hb, fun H' S => ⟨_, rfl, iteF (q _ S)⟩⟩
/-! SPLIT -/
/-! ### a net in time: its state, and where it lies -/
/-- what waits: a box, a deed, the numbers of asks -/
structure Itm where
  box : Nat
  d : Dd
  ns : List Nat
structure NS where
  k : Nat
  room : Nat
  kept : Nat
  am : List Int
  rows : Nat → Nat → List Itm
  asked : List (Nat × Dd)
  ans : List (Option Int)
  ends : List (Option Nat)
  ord : List Nat
  prs : List (Nat × Nat × Nat)
  now : Nat
/-- the names of a net's own things -/
inductive Nm where
  | me | am | rw | lv (j : Nat) | ln (j l : Nat) | as | an | en | od | pa
  deriving DecidableEq
def Nm.ok (k : Nat) : Nm → Prop
  | .lv j => j ≤ k
  | .ln j l => j ≤ k ∧ l < 2 ^ k
  | _ => True
def oN : Option Nat → V
  | none => .non
  | some n => .int (n : Nat)
def ItAt (H : Hp) (t : Addr) (it : Itm) : Prop := ∃ da na, H t = some (.tup [.int (it.box : Nat), .ref da, .ref na]) ∧ H da = some (.tup it.d.vs) ∧ H na = some (.tup (it.ns.map fun n => V.int (n : Nat)))
def ItsAt (H : Hp) (a : Addr) (its : List Itm) : Prop := ∃ ts : List (Addr × Itm), H a = some (.lst (ts.map fun x => V.ref x.1)) ∧ ts.map (fun x => x.2) = its ∧ ∀ x ∈ ts, ItAt H x.1 x.2
def AkdAt (H : Hp) (a : Addr) (as : List (Nat × Dd)) : Prop := ∃ ts : List (Addr × Nat × Dd), H a = some (.lst (ts.map fun x => V.ref x.1)) ∧ ts.map (fun x => x.2) = as ∧ ∀ x ∈ ts, ∃ da, H x.1 = some (.tup [.int (x.2.1 : Nat), .ref da]) ∧ H da = some (.tup x.2.2.vs)
def PrsAt (H : Hp) (a : Addr) (ps : List (Nat × Nat × Nat)) : Prop := ∃ ts : List (Addr × Nat × Nat × Nat), H a = some (.lst (ts.map fun x => V.ref x.1)) ∧ ts.map (fun x => x.2) = ps ∧ ∀ x ∈ ts, H x.1 = some (.tup [.int (x.2.1 : Nat), .int (x.2.2.1 : Nat), .int (x.2.2.2 : Nat)])
/-- tuples stay -/
def TK (H H' : Hp) : Prop := ∀ t xs, H t = some (.tup xs) → H' t = some (.tup xs)
omit B in
theorem TK.refl {H : Hp} : TK H H := fun _ _ z => z
omit B in
theorem TK.trans {H H1 H2 : Hp} (a : TK H H1) (b : TK H1 H2) : TK H H2 := fun t xs z => b t xs (a t xs z)
omit B in
theorem TK.same {H H1 : Hp} (a : Same H H1) : TK H H1 := fun _ _ z => a _ _ z
omit B in
theorem TK.but {H H1 : Hp} {p : Addr} {o : HO} (hp : H p = some o) (no : ∀ xs, o ≠ .tup xs) (b : But p H H1) : TK H H1 := fun t xs z => b _ _ (ne_of z hp (Ne.symm (no xs))) z
omit B in
theorem ItAt.tk {H H' : Hp} {t : Addr} {it : Itm} (h : ItAt H t it) (e : TK H H') : ItAt H' t it := by
  obtain ⟨da, na, h1, h2, h3⟩ := h
  exact ⟨da, na, e _ _ h1, e _ _ h2, e _ _ h3⟩
omit B in
theorem ItsAt.tk {H H' : Hp} {a : Addr} {its : List Itm} (h : ItsAt H a its) (e : TK H H') (ea : ∀ o, H a = some o → H' a = some o) : ItsAt H' a its := by
  obtain ⟨ts, h1, h2, h3⟩ := h
  exact ⟨ts, ea _ h1, h2, fun x hx => (h3 x hx).tk e⟩
omit B in
theorem AkdAt.tk {H H' : Hp} {a : Addr} {as : List (Nat × Dd)} (h : AkdAt H a as) (e : TK H H') (ea : ∀ o, H a = some o → H' a = some o) : AkdAt H' a as := by
  obtain ⟨ts, h1, h2, h3⟩ := h
  exact ⟨ts, ea _ h1, h2, fun x hx => by obtain ⟨da, g1, g2⟩ := h3 x hx; exact ⟨da, e _ _ g1, e _ _ g2⟩⟩
omit B in
theorem PrsAt.tk {H H' : Hp} {a : Addr} {ps : List (Nat × Nat × Nat)} (h : PrsAt H a ps) (e : TK H H') (ea : ∀ o, H a = some o → H' a = some o) : PrsAt H' a ps := by
  obtain ⟨ts, h1, h2, h3⟩ := h
  exact ⟨ts, ea _ h1, h2, fun x hx => e _ _ (h3 x hx)⟩
def nFs (ad : Nm → Addr) (st : NS) : List (Str × V) := [("depth", .int (st.k : Nat)), ("amounts", .ref (ad .am)), ("room", .int (st.room : Nat)), ("kept", .int (st.kept : Nat)), ("rows", .ref (ad .rw)), ("asked", .ref (ad .as)), ("answers", .ref (ad .an)), ("ends", .ref (ad .en)), ("order", .ref (ad .od)), ("pairs", .ref (ad .pa)), ("now", .int (st.now : Nat))]
/-- what stands at a name -/
def AtN (C : Addr) (H : Hp) (ad : Nm → Addr) (st : NS) : Nm → Prop
  | .me => ∃ dx, H (ad .me) = some (.ins C dx (nFs ad st))
  | .am => H (ad .am) = some (.lst (st.am.map V.int))
  | .rw => H (ad .rw) = some (.lst ((List.range (st.k + 1)).map fun j => V.ref (ad (.lv j))))
  | .lv j => H (ad (.lv j)) = some (.lst ((List.range (2 ^ st.k)).map fun l => V.ref (ad (.ln j l))))
  | .ln j l => ItsAt H (ad (.ln j l)) (st.rows j l)
  | .as => AkdAt H (ad .as) st.asked
  | .an => H (ad .an) = some (.lst (st.ans.map oV))
  | .en => H (ad .en) = some (.lst (st.ends.map oN))
  | .od => H (ad .od) = some (.lst (st.ord.map fun n => V.int (n : Nat)))
  | .pa => PrsAt H (ad .pa) st.prs
structure NetAt (C : Addr) (H : Hp) (ad : Nm → Addr) (st : NS) : Prop where
  inj : ∀ m n, m.ok st.k → n.ok st.k → ad m = ad n → m = n
  at_ : ∀ n, n.ok st.k → AtN C H ad st n
omit B in
theorem AtN.some {C : Addr} {H : Hp} {ad : Nm → Addr} {st : NS} : ∀ {n : Nm}, AtN C H ad st n → ∃ o, H (ad n) = some o ∧ ∀ xs, o ≠ .tup xs
  | .me, ⟨_, h⟩ => ⟨_, h, fun _ z => by cases z⟩
  | .am, h => ⟨_, h, fun _ z => by cases z⟩
  | .rw, h => ⟨_, h, fun _ z => by cases z⟩
  | .lv _, h => ⟨_, h, fun _ z => by cases z⟩
  | .ln _ _, ⟨_, h, _⟩ => ⟨_, h, fun _ z => by cases z⟩
  | .as, ⟨_, h, _⟩ => ⟨_, h, fun _ z => by cases z⟩
  | .an, h => ⟨_, h, fun _ z => by cases z⟩
  | .en, h => ⟨_, h, fun _ z => by cases z⟩
  | .od, h => ⟨_, h, fun _ z => by cases z⟩
  | .pa, ⟨_, h, _⟩ => ⟨_, h, fun _ z => by cases z⟩
omit B in
theorem AtN.keep {C : Addr} {H H' : Hp} {ad : Nm → Addr} {st : NS} (e : TK H H') : ∀ {n : Nm}, AtN C H ad st n → (∀ o, H (ad n) = Option.some o → H' (ad n) = Option.some o) → AtN C H' ad st n
  | .me, ⟨dx, h⟩, k => ⟨dx, k _ h⟩
  | .am, h, k => k _ h
  | .rw, h, k => k _ h
  | .lv _, h, k => k _ h
  | .ln _ _, h, k => ItsAt.tk h e k
  | .as, h, k => AkdAt.tk h e k
  | .an, h, k => k _ h
  | .en, h, k => k _ h
  | .od, h, k => k _ h
  | .pa, h, k => PrsAt.tk h e k
omit B in
theorem NetAt.same {C : Addr} {H H' : Hp} {ad : Nm → Addr} {st : NS} (N : NetAt C H ad st) (S : Same H H') : NetAt C H' ad st := ⟨N.inj, fun n hn => (N.at_ n hn).keep (TK.same S) fun o h => S _ _ h⟩
omit B in
/-- one thing is stored anew -/
theorem NetAt.put {C : Addr} {H H' : Hp} {ad : Nm → Addr} {st st' : NS} {n : Nm} (N : NetAt C H ad st) (hn : n.ok st.k) (b : But (ad n) H H') (hk : st'.k = st.k) (same : ∀ m, m ≠ n → AtN C H' ad st m → AtN C H' ad st' m) (new : AtN C H' ad st' n) : NetAt C H' ad st' := by
  obtain ⟨o, ho, no⟩ := (N.at_ n hn).some
  have e := TK.but ho no b
  refine ⟨fun m l h1 h2 => N.inj m l (hk ▸ h1) (hk ▸ h2), fun m hm => ?_⟩
  rw [hk] at hm
  by_cases c : m = n
  · rw [c]; exact new
  · exact same m c ((N.at_ m hm).keep e fun u h => b _ _ (fun z => c (N.inj m n hm hn z)) h)
omit B in
/-- a new thing in the place of an old one -/
theorem NetAt.repl {C : Addr} {H : Hp} {ad : Nm → Addr} {st st' : NS} {a dx : Addr} (N : NetAt C H ad st) (ha : ∀ n, n.ok st.k → ad n ≠ a) (hk : st'.k = st.k) (new : PrsAt H a st'.prs) (me : H (ad .me) = Option.some (.ins C dx (nFs (fun m => if m = .pa then a else ad m) st'))) (same : ∀ m, m ≠ .me → m ≠ .pa → AtN C H ad st m → AtN C H (fun m => if m = .pa then a else ad m) st' m) : NetAt C H (fun m => if m = .pa then a else ad m) st' := by
  refine ⟨fun m l h1 h2 e => ?_, fun m hm => ?_⟩
  · rw [hk] at h1 h2
    by_cases c1 : m = .pa
    · by_cases c2 : l = .pa
      · rw [c1, c2]
      · rw [if_pos c1, if_neg c2] at e
        exact absurd e.symm (ha l h2)
    · by_cases c2 : l = .pa
      · rw [if_neg c1, if_pos c2] at e
        exact absurd e (ha m h1)
      · rw [if_neg c1, if_neg c2] at e
        exact N.inj m l h1 h2 e
  · rw [hk] at hm
    by_cases c : m = .pa
    · subst c
      show PrsAt H (if Nm.pa = Nm.pa then a else ad .pa) st'.prs
      rw [if_pos rfl]
      exact new
    · by_cases c2 : m = .me
      · subst c2
        exact ⟨dx, by show H (if Nm.me = Nm.pa then a else ad .me) = _; rw [if_neg (by decide)]; exact me⟩
      · exact same m c2 c (N.at_ m hm)
/-! frames: what is not the net's own stays -/
structure Fr (k : Nat) (ad ad' : Nm → Addr) (H H' : Hp) : Prop where
  keep : ∀ a o, H a = Option.some o → (∀ n, n.ok k → ad n ≠ a) → H' a = Option.some o
  own : ∀ n, n.ok k → (∃ m, m.ok k ∧ ad m = ad' n) ∨ H (ad' n) = Option.none
  me : ad' .me = ad .me
  mono : ∀ a, H a ≠ Option.none → H' a ≠ Option.none
omit B in
theorem Fr.same {k : Nat} {ad : Nm → Addr} {H H' : Hp} (S : Same H H') : Fr k ad ad H H' := ⟨fun a o h _ => S _ _ h, fun n hn => .inl ⟨n, hn, rfl⟩, rfl, fun a h => by
  cases e : H a with
  | none => exact absurd e h
  | some o => rw [S _ _ e]; exact fun z => by cases z⟩
omit B in
theorem Fr.but {k : Nat} {ad : Nm → Addr} {H H' : Hp} {n : Nm} {u : HO} (hn : n.ok k) (b : But (ad n) H H') (h : H' (ad n) = Option.some u) : Fr k ad ad H H' := ⟨fun a o h no => b _ _ (Ne.symm (no n hn)) h, fun n hn => .inl ⟨n, hn, rfl⟩, rfl, fun a g => by
  cases e : H a with
  | none => exact absurd e g
  | some o =>
    by_cases c : a = ad n
    · rw [c, h]; exact fun z => by cases z
    · rw [b _ _ c e]; exact fun z => by cases z⟩
omit B in
theorem Fr.trans {k : Nat} {ad ad' ad'' : Nm → Addr} {H H1 H2 : Hp} (a : Fr k ad ad' H H1) (b : Fr k ad' ad'' H1 H2) : Fr k ad ad'' H H2 := by
  refine ⟨fun x o h no => b.keep x o (a.keep x o h no) fun n hn z => ?_, fun n hn => ?_, b.me.trans a.me, fun x h => b.mono x (a.mono x h)⟩
  · rcases a.own n hn with ⟨m, hm, e⟩ | e
    · exact no m hm (e.trans z)
    · rw [z, h] at e
      cases e
  · rcases b.own n hn with ⟨m, hm, e⟩ | e
    · rcases a.own m hm with ⟨l, hl, e2⟩ | e2
      · exact .inl ⟨l, hl, e2.trans e⟩
      · exact .inr (by rw [← e]; exact e2)
    · refine .inr ?_
      cases g : H (ad'' n) with
      | none => rfl
      | some o => exact absurd e (a.mono _ (by rw [g]; exact fun z => by cases z))
omit B in
theorem Fr.tk {C : Addr} {ad ad' : Nm → Addr} {H H' : Hp} {st : NS} (N : NetAt C H ad st) (f : Fr st.k ad ad' H H') : TK H H' := fun t xs z => f.keep _ _ z fun n hn e => by
  obtain ⟨o, ho, no⟩ := (N.at_ n hn).some
  rw [e, z] at ho
  exact no xs (Option.some.inj ho).symm
/-! SPLIT -/
def spIsAskL (K : PySem.W.Frag) : Sp := fun vs H Q _ => ∃ (b : Addr) (bs : List Int) (x : Ak), vs = [.ref b, .ref x.a] ∧ H b = some (.lst (bs.map V.int)) ∧ x.at_ H bs.length ∧ Q (.bl true) H
theorem k_is_ask (D : Df K mg "is_ask" s_is_ask ["board", "thing"]) (D_is_whole : Dn P w K mg base 1 "is_whole" ["thing"] spIsWhole) (D_is_deed : Dn P w K mg base 3 "is_deed" ["thing"] (spIsDeed K)) : Dn P w K mg base 4 "is_ask" ["board", "thing"] (spIsAskL K) := by
  refine D.ok fun f fd F => okG0 F sc_is_ask (fun vs H Q E h => ?_) (fun cdv A outer s H vs Q E hr h => ⟨_, (pss_cons (ps_if (PW.pt (pw_or (pt_not (pt_val (pe_callB (kk (K := K) (F := rIsi) (P := CallR _ _) call_isi) (by rfl) B.isinstance_ (by decide +kernel) (pa_cons (pv 1) (pa_cons (pe_bltn (v := .ty "tuple") (u := .type "tuple") (by rfl) B.tuple_ (by decide +kernel) rfl) pa_nil))))) (pw_or (pt_cmpR op_ne (pe_callB (lenK (K := K)) (by rfl) B.len_ (by decide +kernel) (pa_cons (pv 1) pa_nil)) pe_int (nomark _)) (pw_or (pt_not (pt_val (pe_cD D_is_whole (hr.less (by decide)) rfl (pa_cons (pe_ix (kk (K := K) (F := rIxT) (P := IxR _) ix_tup) (pv 1) pe_int (fun _ _ => rfl)) pa_nil)))) (pw_or1 (pt_not (pt_val (pe_cD D_is_whole (hr.less (by decide)) rfl (pa_cons (pe_ix (kk (K := K) (F := rIxT) (P := IxR _) ix_tup) (pv 1) pe_int (fun _ _ => rfl)) pa_nil)))))))))
      (pss_one (ps_ret pe_bl))
      pss_nil)
    (pss_one (ps_ret (pe_and (pe_chain op_le op_lt pe_int (pe_ix (kk (K := K) (F := rIxT) (P := IxR _) ix_tup) (pv 1) pe_int (fun _ _ => rfl)) (pe_glob (v := .int (16)) (u := .int (16) B.HANDS_.choose) (by rfl) B.HANDS_.choose_spec ⟨_, rfl⟩)) (pe_and (pe_chain op_le op_lt pe_int (pe_ix (kk (K := K) (F := rIxT) (P := IxR _) ix_tup) (pv 1) pe_int (fun _ _ => rfl)) (pe_callB (lenK (K := K)) (by rfl) B.len_ (by decide +kernel) (pa_cons (pv 0) pa_nil))) (pe_one (pe_cD D_is_deed (hr.less (by decide)) rfl (pa_cons (pe_ix (kk (K := K) (F := rIxT) (P := IxR _) ix_tup) (pv 1) pe_int (fun _ _ => rfl)) pa_nil)))))))), ?_⟩)
  · obtain ⟨b, bs, x, rfl, _⟩ := h; rfl
  · obtain ⟨b, bs, x, rfl, hb, hx, q⟩ := h
    obtain ⟨hxa, hxd, h0, h1, hbx⟩ := hx
    have xd1 := hxd.1
    have lb : (bs.map V.int).length = bs.length := List.length_map _
    try walk_at "go"
    refine ifT (decide_eq_true h0) ?_
    try walk_at "go"
    rw [decide_eq_true h1]
    try walk_at "go"
    refine ifT (decide_eq_true (by omega)) ?_
    try walk_at "go"
    exact ⟨hxd.arg, q⟩
def lnS (k st n f : Nat) : Nat := (n - n % 2 ^ (k - st)) * 2 + f * 2 ^ (k - st) + n % 2 ^ (k - st)
omit B in
theorem and_mod : ∀ a, a < 5 → ∀ n, n < 16 → Builtin.bitAnd ((n : Nat) : Int) (((2 ^ a : Nat) : Int) - 1) = ((n % 2 ^ a : Nat) : Int) := by decide +kernel
omit B in
theorem and_one : ∀ n, n < 16 → Builtin.bitAnd ((n : Nat) : Int) 1 = ((n % 2 : Nat) : Int) := by decide +kernel
omit B in
theorem shr_one {k l st : Nat} (hk : k ≤ 4) (hst : st ≤ k) (hl : l < 16) : Builtin.bitAnd ((l : Int) / 2 ^ ((k : Int) - (st : Int)).toNat) 1 = ((l / 2 ^ (k - st) % 2 : Nat) : Int) := by
  have e : ((k : Int) - (st : Int)).toNat = k - st := by omega
  have e2 : (l : Int) / 2 ^ (k - st) = ((l / 2 ^ (k - st) : Nat) : Int) := by push_cast; rfl
  rw [e, e2]
  exact and_one _ (Nat.lt_of_le_of_lt (Nat.div_le_self _ _) hl)
def spFigOf : Sp := fun vs H Q _ => ∃ k l st : Nat, vs = [.int (k : Nat), .int (l : Nat), .int (st : Nat)] ∧ k ≤ 4 ∧ st ≤ k ∧ l < 16 ∧ Q (.int ((l / 2 ^ (k - st) % 2 : Nat) : Int)) H
theorem k_figure_of (D : Df K mg "figure_of" s_figure_of ["k", "line", "stage"]) : Dn P w K mg base 1 "figure_of" ["k", "line", "stage"] spFigOf := by
  refine D.ok fun f fd F => okG0 F sc_figure_of (fun vs H Q E h => ?_) (fun cdv A outer s H vs Q E hr h => ⟨_, (pss_one (ps_ret (pe_op op_and (pe_op op_shr (pv 1) (pe_op op_sub (pv 0) (pv 2))) pe_int))), ?_⟩)
  · obtain ⟨k, l, st, rfl, _⟩ := h; rfl
  · obtain ⟨k, l, st, rfl, hk, hst, hl, q⟩ := h
    have ekj : (k : Int) - (st : Int) = ((k - st : Nat) : Int) := by omega
    try walk_at "go"
    refine Eq.mpr (congrArg (fun z => Q z H) (congrArg V.int (shr_one hk hst hl))) q
omit B in
theorem and_shl {k n : Nat} (hk : k ≤ 4) (hn : n < 16) : Builtin.bitAnd (n : Int) (1 * 2 ^ (k : Int).toNat - 1) = ((n % 2 ^ k : Nat) : Int) := by
  rw [← and_mod k (by omega) n hn, Int.toNat_natCast, Int.one_mul]
  push_cast
  rfl
def spSide4 : Sp := fun vs H Q _ => ∃ (k b : Nat), vs = [.int (k : Nat), .int (b : Nat)] ∧ k ≤ 4 ∧ b < 16 ∧ Q (.int ((b % 2 ^ k : Nat) : Int)) H
theorem k_side_of_box (D : Df K mg "side_of_box" s_side_of_box ["k", "box"]) : Dn P w K mg base 1 "side_of_box" ["k", "box"] spSide4 := by
  refine D.ok fun f fd F => okG0 F sc_side_of_box (fun vs H Q E h => ?_) (fun cdv A outer s H vs Q E hr h => ⟨_, (pss_one (ps_ret (pe_op op_and (pv 1) (pe_op op_sub (pe_op op_shlW pe_int (pv 0)) pe_int)))), ?_⟩)
  · obtain ⟨k, b, rfl, _⟩ := h; rfl
  · obtain ⟨k, b, rfl, hk, hb, q⟩ := h
    have sh : CShl 1 (k : Int) := shl_ok (by omega)
    try walk_at "go"
    exact Eq.mpr (congrArg (fun z => Q z H) (congrArg V.int (and_shl hk hb))) q
omit B in
theorem lnS_eq {k st n f : Nat} (hk : k ≤ 4) (h1 : 1 ≤ st) (h2 : st ≤ k) (hn : n < 16) (hf : f < 2) : CMulX ((n : Int) - Builtin.bitAnd (n : Int) (1 * 2 ^ ((k : Int) - (st : Int)).toNat - 1)) 2 ∧ CShl 1 ((k : Int) - (st : Int)) ∧ CShl (f : Int) ((k : Int) - (st : Int)) ∧ ((n : Int) - Builtin.bitAnd (n : Int) (1 * 2 ^ ((k : Int) - (st : Int)).toNat - 1)) * 2 + (f : Int) * 2 ^ ((k : Int) - (st : Int)).toNat + Builtin.bitAnd (n : Int) (1 * 2 ^ ((k : Int) - (st : Int)).toNat - 1) = ((lnS k st n f : Nat) : Int) := by
  have e : (k : Int) - (st : Int) = ((k - st : Nat) : Int) := by omega
  rw [e, and_shl (by omega) hn, Int.toNat_natCast]
  have c : n % 2 ^ (k - st) ≤ n := Nat.mod_le _ _
  refine ⟨mulx 5 5 (by omega) (by decide), shl_ok (by omega), ?_, ?_⟩
  · rcases (by omega : f = 0 ∨ f = 1) with rfl | rfl
    · refine ⟨by omega, ?_⟩
      have : Builtin.Int.intBits ((0 : Nat) : Int) = 0 := by decide +kernel
      rw [this]
      have : k - st ≤ 4 := by omega
      show ((0 : Nat) : Int) + ((k - st : Nat) : Int) ≤ 134217728
      omega
    · exact shl_ok (by omega)
  · unfold lnS
    have c : n % 2 ^ (k - st) ≤ n := Nat.mod_le _ _
    rw [Int.natCast_add, Int.natCast_add, Int.natCast_mul, Int.natCast_mul, Int.natCast_sub c]
    push_cast
    rfl
def spLineS : Sp := fun vs H Q _ => ∃ (k st n f : Nat), vs = [.int (k : Nat), .int (st : Nat), .int (n : Nat), .int (f : Nat)] ∧ k ≤ 4 ∧ 1 ≤ st ∧ st ≤ k ∧ n < 16 ∧ f < 2 ∧ Q (.int (lnS k st n f : Nat)) H
theorem k_line_of (D : Df K mg "line_of" s_line_of ["k", "stage", "number", "figure"]) : Dn P w K mg base 1 "line_of" ["k", "stage", "number", "figure"] spLineS := by
  refine D.ok fun f fd F => okG0 F sc_line_of (fun vs H Q E h => ?_) (fun cdv A outer s H vs Q E hr h => ⟨_, (pss_cons (ps_set (i := 4) sc_line_of.nd rfl (Or.inl rfl) (pe_op op_and (pv 2) (pe_op op_sub (pe_op op_shlW pe_int (pe_op op_sub (pv 0) (pv 1))) pe_int)))
    (pss_one (ps_ret (pe_op op_add (pe_op op_add (pe_op op_mulX (pe_op op_sub (pv 2) (pv 4)) pe_int) (pe_op op_shlW (pv 3) (pe_op op_sub (pv 0) (pv 1)))) (pv 4))))), ?_⟩)
  · obtain ⟨k, st, n, f, rfl, _⟩ := h; rfl
  · obtain ⟨k, st, n, f, rfl, hk, h1, h2, hn, hf, q⟩ := h
    obtain ⟨cm, sh, sh2, el⟩ := lnS_eq hk h1 h2 hn hf
    try walk_at "go"
    exact Eq.mpr (congrArg (fun z => Q z H) (congrArg V.int el)) q
def spRow (K : PySem.W.Frag) : Sp := fun vs H Q _ => ∃ (a : Addr) (xs : List V), vs = [.ref a] ∧ H a = some (.tup xs) ∧ Q (.bl true) H
theorem k_is_row (D : Df K mg "is_row" s_is_row ["thing"]) : Dn P w K mg base 1 "is_row" ["thing"] (spRow K) := by
  refine D.ok fun f fd F => okG0 F sc_is_row (fun vs H Q E h => ?_) (fun cdv A outer s H vs Q E hr h => ⟨_, (pss_one (ps_ret (pe_callB (kk (K := K) (F := rIsi) (P := CallR _ _) call_isi) (by rfl) B.isinstance_ (by decide +kernel) (pa_cons (pv 0) (pa_cons (pe_bltn (v := .ty "tuple") (u := .type "tuple") (by rfl) B.tuple_ (by decide +kernel) rfl) pa_nil))))), ?_⟩)
  · obtain ⟨a, xs, rfl, _⟩ := h; rfl
  · obtain ⟨a, xs, rfl, ha, q⟩ := h
    try walk_at "go"
    exact q
def Plc (k s n : Nat) : Prop := s ≤ k ∧ n < if s = 0 then 2 ^ k else 2 ^ k / 2
def spPlace (K : PySem.W.Frag) : Sp := fun vs H Q _ => ∃ (k s n : Nat) (a : Addr), vs = [.int (k : Nat), .ref a] ∧ k ≤ 4 ∧ Plc k s n ∧ H a = some (.tup [.int (s : Nat), .int (n : Nat)]) ∧ Q (.bl true) H
theorem k_is_place (D : Df K mg "is_place" s_is_place ["k", "thing"]) (D_is_row_of : Dn P w K mg base 1 "is_row_of" ["thing", "many"] (spIsRow K)) (D_is_within : Dn P w K mg base 2 "is_within" ["thing", "least", "most"] spIsWithin) : Dn P w K mg base 4 "is_place" ["k", "thing"] (spPlace K) := by
  refine D.ok fun f fd F => okG0 F sc_is_place (fun vs H Q E h => ?_) (fun cdv A outer s H vs Q E hr h => ⟨_, (pss_cons (ps_if (PW.pt (pw_or (pt_not (pt_val (pe_cD D_is_row_of (hr.less (by decide)) rfl (pa_cons (pv 1) (pa_cons pe_int pa_nil))))) (pw_or1 (pt_not (pt_truth (pe_cD D_is_within (hr.less (by decide)) rfl (pa_cons (pe_ix (kk (K := K) (F := rIxT) (P := IxR _) ix_tup) (pv 1) pe_int (fun _ _ => rfl)) (pa_cons pe_int (pa_cons (pv 0) pa_nil)))) (by intro _; rfl))))))
      (pss_one (ps_ret pe_bl))
      pss_nil)
    (pss_cons (ps_set (i := 2) sc_is_place.nd rfl (Or.inl rfl) (pe_op op_shlW pe_int (pv 0)))
    (pss_cons (ps_if (pt_cmpR op_gt (pe_ix (kk (K := K) (F := rIxT) (P := IxR _) ix_tup) (pv 1) pe_int (fun _ _ => rfl)) pe_int (nomark _))
      (pss_one (ps_set (i := 2) sc_is_place.nd rfl (Or.inl rfl) (pe_op op_fdivW (pv 2) pe_int)))
      pss_nil)
    (pss_one (ps_ret (pe_cD D_is_within (hr.less (by decide)) rfl (pa_cons (pe_ix (kk (K := K) (F := rIxT) (P := IxR _) ix_tup) (pv 1) pe_int (fun _ _ => rfl)) (pa_cons pe_int (pa_cons (pe_op op_sub (pv 2) pe_int) pa_nil))))))))), ?_⟩)
  · obtain ⟨k, s, n, a, rfl, _⟩ := h; rfl
  · obtain ⟨k, s, n, a, rfl, hk, hp, ha, q⟩ := h
    obtain ⟨h1, h2⟩ := hp
    have sh : CShl 1 (k : Int) := shl_ok (by omega)
    have dv : CDivW (1 * 2 ^ (k : Int).toNat) 2 := ⟨by decide, Nat.lt_trans (log_lt (n := 10) (by decide) (by decide)) (by decide)⟩
    have sk : (1 : Int) * 2 ^ ((k : Nat) : Int).toNat = ((2 ^ k : Nat) : Int) := by rw [Int.one_mul, Int.toNat_natCast]; push_cast; rfl
    try walk_at "go"
    by_cases c : s = 0
    · subst c
      rw [if_pos rfl] at h2
      have e2 : ((n : Nat) : Int) ≤ 1 * 2 ^ (k : Int).toNat - 1 := by rw [sk]; omega
      refine ifF (decide_eq_false (by decide)) ?_
      try walk_at "go"
      exact q
    · rw [if_neg c] at h2
      have e2 : ((n : Nat) : Int) ≤ (1 * 2 ^ (k : Int).toNat) / 2 - 1 := by rw [sk]; omega
      refine ifT (decide_eq_true (by omega)) ?_
      try walk_at "go"
      exact q
/-! SPLIT -/
/-! ### a net in time: its methods -/
theorem netNo : Cls K (cAt mg "Net") ∧ NoAttr K (cAt mg "Net") "depth" ∧ NoAttr K (cAt mg "Net") "amounts" ∧ NoAttr K (cAt mg "Net") "room" ∧ NoAttr K (cAt mg "Net") "kept" ∧ NoAttr K (cAt mg "Net") "rows" ∧ NoAttr K (cAt mg "Net") "asked" ∧ NoAttr K (cAt mg "Net") "answers" ∧ NoAttr K (cAt mg "Net") "ends" ∧ NoAttr K (cAt mg "Net") "order" ∧ NoAttr K (cAt mg "Net") "pairs" ∧ NoAttr K (cAt mg "Net") "now" := ⟨B.Net_.cl, B.Net_.no _ (by decide +kernel), B.Net_.no _ (by decide +kernel), B.Net_.no _ (by decide +kernel), B.Net_.no _ (by decide +kernel), B.Net_.no _ (by decide +kernel), B.Net_.no _ (by decide +kernel), B.Net_.no _ (by decide +kernel), B.Net_.no _ (by decide +kernel), B.Net_.no _ (by decide +kernel), B.Net_.no _ (by decide +kernel), B.Net_.no _ (by decide +kernel)⟩
omit B in
theorem NetAt.top {C : Addr} {H : Hp} {ad : Nm → Addr} {st : NS} (N : NetAt C H ad st) : ∃ dx, H (ad .me) = some (.ins C dx [("depth", .int (st.k : Nat)), ("amounts", .ref (ad .am)), ("room", .int (st.room : Nat)), ("kept", .int (st.kept : Nat)), ("rows", .ref (ad .rw)), ("asked", .ref (ad .as)), ("answers", .ref (ad .an)), ("ends", .ref (ad .en)), ("order", .ref (ad .od)), ("pairs", .ref (ad .pa)), ("now", .int (st.now : Nat))]) := N.at_ .me trivial
omit B in
theorem NetAt.am_ {C : Addr} {H : Hp} {ad : Nm → Addr} {st : NS} (N : NetAt C H ad st) : H (ad .am) = some (.lst (st.am.map V.int)) := N.at_ .am trivial
omit B in
theorem NetAt.rw_ {C : Addr} {H : Hp} {ad : Nm → Addr} {st : NS} (N : NetAt C H ad st) : H (ad .rw) = some (.lst ((List.range (st.k + 1)).map fun j => V.ref (ad (.lv j)))) := N.at_ .rw trivial
omit B in
theorem NetAt.lv_ {C : Addr} {H : Hp} {ad : Nm → Addr} {st : NS} (N : NetAt C H ad st) {j : Nat} (hj : j ≤ st.k) : H (ad (.lv j)) = some (.lst ((List.range (2 ^ st.k)).map fun l => V.ref (ad (.ln j l)))) := N.at_ (.lv j) hj
omit B in
theorem NetAt.ln_ {C : Addr} {H : Hp} {ad : Nm → Addr} {st : NS} (N : NetAt C H ad st) {j l : Nat} (hj : j ≤ st.k) (hl : l < 2 ^ st.k) : ItsAt H (ad (.ln j l)) (st.rows j l) := N.at_ (.ln j l) ⟨hj, hl⟩
omit B in
theorem NetAt.as_ {C : Addr} {H : Hp} {ad : Nm → Addr} {st : NS} (N : NetAt C H ad st) : AkdAt H (ad .as) st.asked := N.at_ .as trivial
omit B in
theorem NetAt.an_ {C : Addr} {H : Hp} {ad : Nm → Addr} {st : NS} (N : NetAt C H ad st) : H (ad .an) = some (.lst (st.ans.map oV)) := N.at_ .an trivial
omit B in
theorem NetAt.en_ {C : Addr} {H : Hp} {ad : Nm → Addr} {st : NS} (N : NetAt C H ad st) : H (ad .en) = some (.lst (st.ends.map oN)) := N.at_ .en trivial
omit B in
theorem NetAt.od_ {C : Addr} {H : Hp} {ad : Nm → Addr} {st : NS} (N : NetAt C H ad st) : H (ad .od) = some (.lst (st.ord.map fun n => V.int (n : Nat))) := N.at_ .od trivial
omit B in
theorem NetAt.pa_ {C : Addr} {H : Hp} {ad : Nm → Addr} {st : NS} (N : NetAt C H ad st) : PrsAt H (ad .pa) st.prs := N.at_ .pa trivial
omit B in
theorem atEn {es : List (Option Nat)} {n : Nat} (h : n < es.length) : atI (es.map oN) (n : Int) = some (oN (es.getD n none)) := at_of (j := n) rfl (by rw [List.getElem?_map, List.getD_eq_getElem?_getD, List.getElem?_eq_getElem h] <;> rfl)
def spWHand (K : PySem.W.Frag) (C : Addr) : Sp := fun vs H Q _ => ∃ (ad : Nm → Addr) (st : NS) (h : Nat), vs = [.ref (ad .me), .int (h : Nat)] ∧ NetAt C H ad st ∧ st.k ≤ 4 ∧ h < 2 ^ st.k ∧ Q .non H
theorem k_Net__want_hand (D : DfM K (cAt mg "Net") "want_hand" "Net.want_hand" s_Net__want_hand ["self", "hand"]) : DnM P w K mg base (cAt mg "Net") 1 "want_hand" ["self", "hand"] (spWHand K (cAt mg "Net")) := by
  refine D.ok fun f fd F => okG0 F sc_Net__want_hand (fun vs H Q E h => ?_) (fun cdv A outer s H vs Q E hr h => ⟨_, (pss_one (ps_if (pt_cmpR op_ge (pv 1) (pe_op op_shlW pe_int (kk (K := K) (F := fun K => tFld K _ _) (P := PE _ _) (pe_fld (pv 0) rfl))) (nomark _))
     (pss_one ps_never)
     pss_nil)), ?_⟩)
  · obtain ⟨ad, st, h, rfl, _⟩ := h; rfl
  · obtain ⟨ad, st, x, rfl, N, hk, hx, q⟩ := h
    obtain ⟨cl0, n1, n2, n3, n4, n5, n6, n7, n8, n9, n10, n11⟩ := netNo B
    obtain ⟨dx, me⟩ := N.top
    have sh : CShl 1 (st.k : Int) := shl_ok (by omega)
    have sk : (1 : Int) * 2 ^ ((st.k : Nat) : Int).toNat = ((2 ^ st.k : Nat) : Int) := by rw [Int.one_mul, Int.toNat_natCast]; push_cast; rfl
    try walk_at "go"
    exact ifF (decide_eq_false (by omega)) q
def fgtS (st : NS) (x : Nat × Nat × Nat) : Bool := match st.ends.getD x.2.2 none with
  | none => false
  | some e => decide (st.k + e < st.now + x.1)
def spFgt (K : PySem.W.Frag) (C : Addr) : Sp := fun vs H Q _ => ∃ (ad : Nm → Addr) (st : NS) (x : Nat × Nat × Nat) (t : Addr), vs = [.ref (ad .me), .ref t] ∧ NetAt C H ad st ∧ H t = some (.tup [.int (x.1 : Nat), .int (x.2.1 : Nat), .int (x.2.2 : Nat)]) ∧ x.2.2 < st.ends.length ∧ Q (.bl (fgtS st x)) H
theorem k_Net__is_forgotten (D : DfM K (cAt mg "Net") "is_forgotten" "Net.is_forgotten" s_Net__is_forgotten ["self", "pair"]) : DnM P w K mg base (cAt mg "Net") 1 "is_forgotten" ["self", "pair"] (spFgt K (cAt mg "Net")) := by
  refine D.ok fun f fd F => okG0 F sc_Net__is_forgotten (fun vs H Q E h => ?_) (fun cdv A outer s H vs Q E hr h => ⟨_, (pss_cons (ps_asg (pv 1) (kk (K := K) (F := fun K => gTup K 3 _) (P := PG _ _) (pg_tup rfl (pgs_cons (pg_name (i := 2) sc_Net__is_forgotten.nd rfl (Or.inl rfl)) (pgs_cons (pg_name (i := 3) sc_Net__is_forgotten.nd rfl (Or.inl rfl)) (pgs_cons (pg_name (i := 4) sc_Net__is_forgotten.nd rfl (Or.inl rfl)) pgs_nil))))))
    (pss_cons (ps_set (i := 5) sc_Net__is_forgotten.nd rfl (Or.inl rfl) (pe_ix (kk (K := K) (F := rIxL) (P := IxR _) ix_list) (kk (K := K) (F := fun K => tFld K _ _) (P := PE _ _) (pe_fld (pv 0) rfl)) (pv 4) (fun _ _ => rfl)))
    (pss_one (ps_ret (pe_and (pe_cmpR op_notN (pv 5) pe_non (nomark _)) (pe_one (pe_cmpR op_gt (pe_op op_sub (kk (K := K) (F := fun K => tFld K _ _) (P := PE _ _) (pe_fld (pv 0) rfl)) (pv 5)) (pe_op op_sub (kk (K := K) (F := fun K => tFld K _ _) (P := PE _ _) (pe_fld (pv 0) rfl)) (pv 2)) (nomark _)))))))), ?_⟩)
  · obtain ⟨ad, st, x, t, rfl, _⟩ := h; rfl
  · obtain ⟨ad, st, x, t, rfl, N, ht, hx, q⟩ := h
    obtain ⟨cl0, n1, n2, n3, n4, n5, n6, n7, n8, n9, n10, n11⟩ := netNo B
    obtain ⟨dx, me⟩ := N.top
    have en := N.en_
    have ge := atEn hx
    unfold fgtS at q
    generalize st.ends.getD x.2.2 none = e at ge q
    cases e with
    | none =>
      have ge : atI (st.ends.map oN) (x.2.2 : Int) = some .non := ge
      try walk_at "go"
      exact ifF (by decide) q
    | some e =>
      have ge : atI (st.ends.map oN) (x.2.2 : Int) = some (.int (e : Nat)) := ge
      have eq0 : decide ((st.k : Int) - (x.1 : Int) < (st.now : Int) - (e : Int)) = decide (st.k + e < st.now + x.1) := decide_eq_decide.mpr (by omega)
      have nn : (!decide (V.int (e : Nat) = V.non)) = true := by rw [decide_eq_false (fun z => by cases z)]; rfl
      try walk_at "go"
      exact Eq.mpr (congrArg (fun z => Q z H) (congrArg V.bl eq0)) q
def spLog (K : PySem.W.Frag) (C : Addr) : Sp := fun vs H Q _ => ∃ (ad : Nm → Addr) (st : NS), vs = [.ref (ad .me)] ∧ NetAt C H ad st ∧ ∀ a H', Same H H' → H' a = some (.tup (st.ord.map fun n => V.int (n : Nat))) → Q (.ref a) H'
theorem k_Net__log (D : DfM K (cAt mg "Net") "log" "Net.log" s_Net__log ["self"]) : DnM P w K mg base (cAt mg "Net") 1 "log" ["self"] (spLog K (cAt mg "Net")) := by
  refine D.ok fun f fd F => okG0 F sc_Net__log (fun vs H Q E h => ?_) (fun cdv A outer s H vs Q E hr h => ⟨_, (pss_one (ps_ret (pe_callTy (tupOfK (K := K)) (by rfl) B.tuple_ (by decide +kernel) (pa_cons (kk (K := K) (F := fun K => tFld K _ _) (P := PE _ _) (pe_fld (pv 0) rfl)) pa_nil)))), ?_⟩)
  · obtain ⟨ad, st, rfl, _⟩ := h; rfl
  · obtain ⟨ad, st, rfl, N, q⟩ := h
    obtain ⟨cl0, n1, n2, n3, n4, n5, n6, n7, n8, n9, n10, n11⟩ := netNo B
    obtain ⟨dx, me⟩ := N.top
    have od := N.od_
    try walk_at "go"
    exact fun l hl => q l _ (same_new hl _) upd_same
/-- an ask's deed is made to its box's value -/
def endS (st : NS) (n : Nat) : NS :=
  let x := st.asked.getD n (0, ⟨0, none, none⟩)
  let v := st.am.getD x.1 0
  { st with ans := st.ans.set n (some v), am := st.am.set x.1 (x.2.ap v), ends := st.ends.set n (some st.now), ord := st.ord ++ [n] }
/-- sizes fit -/
structure Wf (st : NS) : Prop where
  k4 : st.k ≤ 4
  am1 : 1 ≤ st.am.length
  am16 : st.am.length ≤ 16
  room : 1 ≤ st.room ∧ st.room ≤ 6
  kept : st.kept ≤ 6
  n40 : st.asked.length ≤ 40
  la : st.ans.length = st.asked.length
  le : st.ends.length = st.asked.length
  box : ∀ x ∈ st.asked, x.1 < st.am.length ∧ x.2.Ok
  ord : st.ord.length ≤ 40
omit B in
theorem NetAt.anP {C : Addr} {H H1 : Hp} {ad : Nm → Addr} {st : NS} {vs : List V} {ans' : List (Option Int)} (N : NetAt C H ad st) (e : upd H (ad .an) (.lst vs) = H1) (h : vs = ans'.map oV) : NetAt C H1 ad { st with ans := ans' } ∧ Fr st.k ad ad H H1 ∧ (∀ m o, m.ok st.k → m ≠ .an → H (ad m) = some o → H1 (ad m) = some o) := by
  refine ⟨N.put (n := .an) trivial (e ▸ But.upd) rfl (fun m hm z => ?_) (by subst h; exact e ▸ upd_same), Fr.but (n := .an) trivial (e ▸ But.upd) (e ▸ upd_same), fun m o h1 h2 h3 => (e ▸ But.upd : But (ad .an) H H1) _ _ (fun z => h2 (N.inj m .an h1 trivial z)) h3⟩
  cases m <;> first | exact z | exact absurd rfl hm
omit B in
theorem NetAt.amP {C : Addr} {H H1 : Hp} {ad : Nm → Addr} {st : NS} {vs : List V} {am' : List Int} (N : NetAt C H ad st) (e : upd H (ad .am) (.lst vs) = H1) (h : vs = am'.map V.int) : NetAt C H1 ad { st with am := am' } ∧ Fr st.k ad ad H H1 ∧ (∀ m o, m.ok st.k → m ≠ .am → H (ad m) = some o → H1 (ad m) = some o) := by
  refine ⟨N.put (n := .am) trivial (e ▸ But.upd) rfl (fun m hm z => ?_) (by subst h; exact e ▸ upd_same), Fr.but (n := .am) trivial (e ▸ But.upd) (e ▸ upd_same), fun m o h1 h2 h3 => (e ▸ But.upd : But (ad .am) H H1) _ _ (fun z => h2 (N.inj m .am h1 trivial z)) h3⟩
  cases m <;> first | exact z | exact absurd rfl hm
omit B in
theorem NetAt.enP {C : Addr} {H H1 : Hp} {ad : Nm → Addr} {st : NS} {vs : List V} {ends' : List (Option Nat)} (N : NetAt C H ad st) (e : upd H (ad .en) (.lst vs) = H1) (h : vs = ends'.map oN) : NetAt C H1 ad { st with ends := ends' } ∧ Fr st.k ad ad H H1 ∧ (∀ m o, m.ok st.k → m ≠ .en → H (ad m) = some o → H1 (ad m) = some o) := by
  refine ⟨N.put (n := .en) trivial (e ▸ But.upd) rfl (fun m hm z => ?_) (by subst h; exact e ▸ upd_same), Fr.but (n := .en) trivial (e ▸ But.upd) (e ▸ upd_same), fun m o h1 h2 h3 => (e ▸ But.upd : But (ad .en) H H1) _ _ (fun z => h2 (N.inj m .en h1 trivial z)) h3⟩
  cases m <;> first | exact z | exact absurd rfl hm
omit B in
theorem NetAt.odP {C : Addr} {H H1 : Hp} {ad : Nm → Addr} {st : NS} {vs : List V} {ord' : List Nat} (N : NetAt C H ad st) (e : upd H (ad .od) (.lst vs) = H1) (h : vs = ord'.map fun n => V.int (n : Nat)) : NetAt C H1 ad { st with ord := ord' } ∧ Fr st.k ad ad H H1 ∧ (∀ m o, m.ok st.k → m ≠ .od → H (ad m) = some o → H1 (ad m) = some o) := by
  refine ⟨N.put (n := .od) trivial (e ▸ But.upd) rfl (fun m hm z => ?_) (by subst h; exact e ▸ upd_same), Fr.but (n := .od) trivial (e ▸ But.upd) (e ▸ upd_same), fun m o h1 h2 h3 => (e ▸ But.upd : But (ad .od) H H1) _ _ (fun z => h2 (N.inj m .od h1 trivial z)) h3⟩
  cases m <;> first | exact z | exact absurd rfl hm
omit B in
theorem AkdAt.get {H : Hp} {a : Addr} {as : List (Nat × Dd)} {n : Nat} (h : AkdAt H a as) (hn : n < as.length) : ∃ (xs : List V) (t da : Addr), H a = some (.lst xs) ∧ atI xs (n : Int) = some (.ref t) ∧ H t = some (.tup [.int ((as.getD n (0, ⟨0, none, none⟩)).1 : Nat), .ref da]) ∧ H da = some (.tup (as.getD n (0, ⟨0, none, none⟩)).2.vs) := by
  obtain ⟨ts, h1, h2, h3⟩ := h
  subst h2
  rw [List.length_map] at hn
  obtain ⟨da, g1, g2⟩ := h3 _ (List.getElem_mem hn)
  have e : (ts.map fun x => x.2).getD n (0, ⟨0, none, none⟩) = ts[n].2 := by rw [List.getD_eq_getElem?_getD, List.getElem?_map, List.getElem?_eq_getElem hn] <;> rfl
  exact ⟨_, ts[n].1, da, h1, at_of (j := n) rfl (by rw [List.getElem?_map, List.getElem?_eq_getElem hn] <;> rfl), by rw [e]; exact g1, by rw [e]; exact g2⟩
def spEnd (K : PySem.W.Frag) (C : Addr) : Sp := fun vs H Q _ => ∃ (ad : Nm → Addr) (st : NS) (n : Nat), vs = [.ref (ad .me), .int (n : Nat)] ∧ NetAt C H ad st ∧ Wf st ∧ n < st.asked.length ∧ ∀ H', Fr st.k ad ad H H' → NetAt C H' ad (endS st n) → Q .non H'
theorem k_Net__end (D : DfM K (cAt mg "Net") "end" "Net.end" s_Net__end ["self", "number"]) (D_put_through : Dn P w K mg base 1 "put_through" ["deed", "value"] (spPut K)) : DnM P w K mg base (cAt mg "Net") 12 "end" ["self", "number"] (spEnd K (cAt mg "Net")) := by
  refine D.ok fun f fd F => okG0 F sc_Net__end (fun vs H Q E h => ?_) (fun cdv A outer s H vs Q E hr h => ⟨_, (pss_cons (ps_asg (pe_ix (kk (K := K) (F := rIxL) (P := IxR _) ix_list) (kk (K := K) (F := fun K => tFld K _ _) (P := PE _ _) (pe_fld (pv 0) rfl)) (pv 1) (fun _ _ => rfl)) (kk (K := K) (F := fun K => gTup K 2 _) (P := PG _ _) (pg_tup rfl (pgs_cons (pg_name (i := 2) sc_Net__end.nd rfl (Or.inl rfl)) (pgs_cons (pg_name (i := 3) sc_Net__end.nd rfl (Or.inl rfl)) pgs_nil)))))
    (pss_cons (ps_set (i := 4) sc_Net__end.nd rfl (Or.inl rfl) (kk (K := K) (F := fun K => tFld K _ _) (P := PE _ _) (pe_fld (pv 0) rfl)))
    (pss_cons (ps_asg (pe_ix (kk (K := K) (F := rIxL) (P := IxR _) ix_list) (pv 4) (pv 2) (fun _ _ => rfl)) (pg_sub (kk (K := K) (F := fun K => tFld K _ _) (P := PE _ _) (pe_fld (pv 0) rfl)) (pv 1) set_list))
    (pss_cons (ps_asg (pe_cD D_put_through (hr.less (by decide)) rfl (pa_cons (pv 3) (pa_cons (pe_ix (kk (K := K) (F := rIxL) (P := IxR _) ix_list) (pv 4) (pv 2) (fun _ _ => rfl)) pa_nil))) (pg_sub (pv 4) (pv 2) set_list))
    (pss_cons (ps_asg (kk (K := K) (F := fun K => tFld K _ _) (P := PE _ _) (pe_fld (pv 0) rfl)) (pg_sub (kk (K := K) (F := fun K => tFld K _ _) (P := PE _ _) (pe_fld (pv 0) rfl)) (pv 1) set_list))
    (pss_one (ps_expr (kk (K := K) (F := fun K => tBM K "list" _ _ _) (P := PE _ _) (pe_bm PySem.F.plainAttrs_list PySem.F.slot_list_append PySem.F.type_list_append mt_append (kk (K := K) (F := fun K => tFld K _ _) (P := PE _ _) (pe_fld (pv 0) rfl)) (pa_cons (pv 1) pa_nil)))))))))), ?_⟩)
  · obtain ⟨ad, st, n, rfl, _⟩ := h; rfl
  · obtain ⟨ad, st, n, rfl, N, hw, hx, q⟩ := h
    obtain ⟨cl0, n1, n2, n3, n4, n5, n6, n7, n8, n9, n10, n11⟩ := netNo B
    obtain ⟨dx, me⟩ := N.top
    have an := N.an_
    have am := N.am_
    have en := N.en_
    have od := N.od_
    obtain ⟨ts, t, da, as1, as2, as3, as4⟩ := N.as_.get hx
    have sd : SqT K H da (st.asked.getD n (0, ⟨0, none, none⟩)).2.vs := SqT.of as4
    have xok := hw.box (st.asked.getD n (0, ⟨0, none, none⟩)) (by rw [List.getD_eq_getElem?_getD, List.getElem?_eq_getElem hx]; exact List.getElem_mem hx)
    generalize ex : st.asked.getD n (0, ⟨0, none, none⟩) = x at as3 as4 sd xok
    obtain ⟨b, d⟩ := x
    have gv : atI (st.am.map V.int) (b : Int) = some (.int (st.am.getD b 0)) := at_of (j := b) rfl (by rw [List.getElem?_map, List.getD_eq_getElem?_getD, List.getElem?_eq_getElem xok.1] <;> rfl)
    have lo : (st.ord.map fun n => V.int (n : Nat)).length ≤ 40 := by rw [List.length_map]; exact hw.ord
    have x1 : ixN (st.ans.map oV).length (n : Int) = some n := ixn (by rw [List.length_map, hw.la]; exact hx)
    have x2 : ixN (st.am.map V.int).length (b : Int) = some b := ixn (by rw [List.length_map]; exact xok.1)
    have x3 : ixN (st.ends.map oN).length (n : Int) = some n := ixn (by rw [List.length_map, hw.le]; exact hx)
    try walk_at "go"
    generalize e1 : upd H (ad .an) _ = H1
    obtain ⟨N1, F1, K1⟩ := N.anP (ans' := st.ans.set n (some (st.am.getD b 0))) e1 (by rw [List.map_set] <;> rfl)
    have as4 := (F1.tk N) _ _ as4
    have me := K1 .me _ trivial (by decide) me
    have am := K1 .am _ trivial (by decide) am
    have en := K1 .en _ trivial (by decide) en
    have od := K1 .od _ trivial (by decide) od
    have sd : SqT K H1 da d.vs := SqT.of as4
    try walk_at "go"
    generalize e2 : upd H1 (ad .am) _ = H2
    obtain ⟨N2, F2, K2⟩ := N1.amP (am' := st.am.set b (d.ap (st.am.getD b 0))) e2 (by rw [List.map_set] <;> rfl)
    have me := K2 .me _ trivial (by decide) me
    have en := K2 .en _ trivial (by decide) en
    have od := K2 .od _ trivial (by decide) od
    try dsimp only at N2
    try walk_at "go"
    generalize e3 : upd H2 (ad .en) _ = H3
    obtain ⟨N3, F3, K3⟩ := N2.enP (ends' := st.ends.set n (some st.now)) e3 (by rw [List.map_set] <;> rfl)
    have me := K3 .me _ trivial (by decide) me
    have od := K3 .od _ trivial (by decide) od
    try dsimp only at N3
    try walk_at "go"
    generalize e4 : upd H3 (ad .od) _ = H4
    obtain ⟨N4, F4, K4⟩ := N3.odP (ord' := st.ord ++ [n]) e4 (by rw [List.map_append] <;> rfl)
    try walk_at "go"
    exact q H4 (F1.trans (F2.trans (F3.trans F4))) (by unfold endS; rw [ex]; exact N4)
/-! SPLIT -/
/-- the side takes the first ask that waits there -/
def takeS (st : NS) (l : Nat) : NS := match st.rows st.k l with
  | [] => st
  | it :: its => it.ns.foldl endS { st with rows := fun j m => if j = st.k ∧ m = l then its else st.rows j m }
omit B in
theorem NetAt.lnP {C : Addr} {H H1 : Hp} {ad : Nm → Addr} {st : NS} {vs : List V} {j l : Nat} {its : List Itm} (N : NetAt C H ad st) (hj : j ≤ st.k) (hl : l < 2 ^ st.k) (e : upd H (ad (.ln j l)) (.lst vs) = H1) (h : ∃ ts : List (Addr × Itm), vs = ts.map (fun x => V.ref x.1) ∧ ts.map (fun x => x.2) = its ∧ ∀ x ∈ ts, ItAt H x.1 x.2) : NetAt C H1 ad { st with rows := fun a b => if a = j ∧ b = l then its else st.rows a b } ∧ Fr st.k ad ad H H1 ∧ (∀ m o, m.ok st.k → m ≠ .ln j l → H (ad m) = some o → H1 (ad m) = some o) := by
  have b : But (ad (.ln j l)) H H1 := e ▸ But.upd
  have ho : (Nm.ln j l).ok st.k := ⟨hj, hl⟩
  have o1 : H1 (ad (.ln j l)) = some (.lst vs) := e ▸ upd_same
  obtain ⟨o, g1, g2⟩ := (N.at_ _ ho).some
  have tk := TK.but g1 g2 b
  refine ⟨N.put ho b rfl (fun m hm z => ?_) ?_, Fr.but ho b o1, fun m o h1 h2 h3 => b _ _ (fun z => h2 (N.inj m _ h1 ho z)) h3⟩
  · cases m with
    | ln a c =>
      have n : ¬ (a = j ∧ c = l) := fun y => hm (by rw [y.1, y.2])
      show ItsAt H1 _ (if a = j ∧ c = l then its else st.rows a c)
      rw [if_neg n]
      exact z
    | _ => exact z
  · show ItsAt H1 _ (if j = j ∧ l = l then its else st.rows j l)
    rw [if_pos ⟨rfl, rfl⟩]
    obtain ⟨ts, h1, h2, h3⟩ := h
    exact ⟨ts, by rw [o1, h1], h2, fun x hx => (h3 x hx).tk tk⟩
omit B in
theorem Wf.end_ {st : NS} {n : Nat} (h : Wf st) (hn : st.ord.length < 40) : Wf (endS st n) := by
  obtain ⟨a1, a2, a3, a4, a5, a6, a7, a8, a9, a10⟩ := h
  unfold endS
  exact ⟨a1, by simpa using a2, by simpa using a3, a4, a5, a6, by simpa using a7, by simpa using a8, fun x hx => by simpa using a9 x hx, by simp only [List.length_append, List.length_cons, List.length_nil]; omega⟩
omit B in
theorem fold_end : ∀ (ns : List Nat) (st : NS), (ns.foldl endS st).k = st.k ∧ (ns.foldl endS st).asked = st.asked ∧ (ns.foldl endS st).ord = st.ord ++ ns
  | [], st => ⟨rfl, rfl, by rw [List.append_nil]; rfl⟩
  | n :: ns, st => by
    obtain ⟨a, b, c⟩ := fold_end ns (endS st n)
    rw [List.foldl_cons]
    exact ⟨a.trans rfl, b.trans rfl, c.trans (by show (st.ord ++ [n]) ++ ns = _; rw [List.append_assoc]; rfl)⟩
omit B in
theorem Wf.fold {st : NS} (h : Wf st) : ∀ (ns : List Nat), st.ord.length + ns.length ≤ 40 → Wf (ns.foldl endS st)
  | [], _ => h
  | n :: ns, e => by
    rw [List.length_cons] at e
    exact Wf.fold (h.end_ (n := n) (by omega)) ns (by show (st.ord ++ [n]).length + _ ≤ _; rw [List.length_append, List.length_singleton]; omega)
def spTake (K : PySem.W.Frag) (C : Addr) : Sp := fun vs H Q _ => ∃ (ad : Nm → Addr) (st : NS) (l : Nat), vs = [.ref (ad .me), .int (l : Nat)] ∧ NetAt C H ad st ∧ Wf st ∧ l < 2 ^ st.k ∧ (∀ it ∈ st.rows st.k l, (∀ n ∈ it.ns, n < st.asked.length) ∧ st.ord.length + it.ns.length ≤ 40) ∧ ∀ H', Fr st.k ad ad H H' → NetAt C H' ad (takeS st l) → Q .non H'
theorem k_Net__take (D : DfM K (cAt mg "Net") "take" "Net.take" s_Net__take ["self", "side"]) (D_Net__end : DnM P w K mg base (cAt mg "Net") 12 "end" ["self", "number"] (spEnd K (cAt mg "Net"))) : DnM P w K mg base (cAt mg "Net") 13 "take" ["self", "side"] (spTake K (cAt mg "Net")) := by
  refine D.ok fun f fd F => okG0 F sc_Net__take (fun vs H Q E h => ?_) (fun cdv A outer s H vs Q E hr h => ⟨_, (pss_cons (ps_set (i := 2) sc_Net__take.nd rfl (Or.inl rfl) (pe_ix (kk (K := K) (F := rIxL) (P := IxR _) ix_list) (pe_ix (kk (K := K) (F := rIxL) (P := IxR _) ix_list) (kk (K := K) (F := fun K => tFld K _ _) (P := PE _ _) (pe_fld (pv 0) rfl)) (kk (K := K) (F := fun K => tFld K _ _) (P := PE _ _) (pe_fld (pv 0) rfl)) (fun _ _ => rfl)) (pv 1) (fun _ _ => rfl)))
    (pss_one (ps_if (pt_cmpR (kk (K := K) (F := rNeNil) (P := OpR _ _) (op_neNil hr.units)) (pv 2) (pe_lst pa_nil) (nomark _))
     (pss_cons (ps_asg (kk (K := K) (F := fun K => tBM K "list" _ _ _) (P := PE _ _) (pe_bm PySem.F.plainAttrs_list PySem.F.slot_list_pop PySem.F.type_list_pop mt_popAt (pv 2) (pa_cons pe_int pa_nil))) (kk (K := K) (F := fun K => gTup K 3 _) (P := PG _ _) (pg_tup rfl (pgs_cons (pg_name (i := 3) sc_Net__take.nd rfl (Or.inl rfl)) (pgs_cons (pg_name (i := 4) sc_Net__take.nd rfl (Or.inl rfl)) (pgs_cons (pg_name (i := 5) sc_Net__take.nd rfl (Or.inl rfl)) pgs_nil))))))
     (pss_one (ps_for PassesOwn.never rfl (kk (K := K) (F := fun K => iTup K _) (P := PI _ _ _) (pi_tup (pv 5))) (pg_name (i := 6) sc_Net__take.nd rfl (Or.inl rfl))
      (pss_one (ps_expr (pe_mG D_Net__end B.Net_.cl (hr.less (by decide)) (pv 0) (pa_cons (pv 6) pa_nil)))))))
     pss_nil))), ?_⟩)
  · obtain ⟨ad, st, l, rfl, _⟩ := h; rfl
  · obtain ⟨ad, st, l, rfl, N, hw, hl, hr, q⟩ := h
    obtain ⟨cl0, n1, n2, n3, n4, n5, n6, n7, n8, n9, n10, n11⟩ := netNo B
    obtain ⟨dx, me⟩ := N.top
    have rw0 := N.rw_
    have lv0 := N.lv_ (Nat.le_refl st.k)
    obtain ⟨ts, ln1, ln2, ln3⟩ := N.ln_ (Nat.le_refl st.k) hl
    have x1 : atI ((List.range (st.k + 1)).map fun j => V.ref (ad (.lv j))) (st.k : Int) = some (.ref (ad (.lv st.k))) := at_of (j := st.k) rfl (by rw [List.getElem?_map, List.getElem?_range (by omega)] <;> rfl)
    have x2 : atI ((List.range (2 ^ st.k)).map fun l => V.ref (ad (.ln st.k l))) (l : Int) = some (.ref (ad (.ln st.k l))) := at_of (j := l) rfl (by rw [List.getElem?_map, List.getElem?_range hl] <;> rfl)
    try walk_at "go"
    intro p hp
    generalize eH1 : upd _ p _ = H1
    have SH1 := newS eH1 hp
    have op := newO eH1
    have N1 := N.same SH1
    have ln11 := SH1 _ _ ln1
    have me1 := SH1 _ _ me
    have rw1 := SH1 _ _ rw0
    have lv1 := SH1 _ _ lv0
    cases ts with
    | nil =>
      refine ⟨_, _, _, rfl, rfl, SqL.of ln11, SqL.of op, _, rfl, ifF rfl ?_⟩
      exact q H1 (Fr.same SH1) (by unfold takeS; rw [← ln2]; exact N1)
    | cons z ts =>
      refine ⟨_, _, _, rfl, rfl, SqL.of ln11, SqL.of op, _, rfl, ifT rfl ?_⟩
      obtain ⟨za, it⟩ := z
      have rr : st.rows st.k l = it :: ts.map (fun x => x.2) := ln2.symm
      obtain ⟨da, na, it1, it2, it3⟩ := ln3 (za, it) (List.mem_cons_self ..)
      have it1 := SH1 _ _ it1
      have it2 := SH1 _ _ it2
      have it3 := SH1 _ _ it3
      have sx : seqIndex? 0 (List.map (fun x => V.ref x.1) ((za, it) :: ts)).length = some 0 := by
        rw [List.length_map]
        unfold seqIndex?
        simp
      have xk : (List.map (fun x => V.ref x.1) ((za, it) :: ts))[0]? = some (.ref za) := rfl
      try walk_at "go"
      generalize e2 : upd H1 (ad (.ln st.k l)) _ = H2
      obtain ⟨N2, F2, K2⟩ := N1.lnP (its := ts.map fun x => x.2) (Nat.le_refl _) hl e2 ⟨ts, rfl, rfl, fun x hx => (ln3 x (List.mem_cons_of_mem _ hx)).tk (TK.same SH1)⟩
      have tk2 := F2.tk N1
      have it1 := tk2 _ _ it1
      have it2 := tk2 _ _ it2
      have it3 := tk2 _ _ it3
      try walk_at "go"
      obtain ⟨hn, ho⟩ := hr it (by rw [rr]; exact List.mem_cons_self ..)
      have tkt : takeS st l = it.ns.foldl endS { st with rows := fun a b => if a = st.k ∧ b = l then (ts.map fun x : Addr × Itm => x.2) else st.rows a b } := by unfold takeS; rw [rr]
      have w2 : Wf { st with rows := fun a b => if a = st.k ∧ b = l then (ts.map fun x : Addr × Itm => x.2) else st.rows a b } := ⟨hw.1, hw.2, hw.3, hw.4, hw.5, hw.6, hw.7, hw.8, hw.9, hw.10⟩
      obtain ⟨s0, es0⟩ : ∃ s0, s0 = { st with rows := fun a b => if a = st.k ∧ b = l then (ts.map fun x : Addr × Itm => x.2) else st.rows a b } := ⟨_, rfl⟩
      rw [← es0] at N2 tkt w2
      have sk : s0.k = st.k := by rw [es0]
      have sa : s0.asked = st.asked := by rw [es0]
      have so : s0.ord = st.ord := by rw [es0]
      have F0 : Fr st.k ad ad H H2 := (Fr.same SH1).trans F2
      refine for_tup (K := K) (a := na) (xs := it.ns.map fun n => V.int (n : Nat)) (fun i σ H' => (∃ (v6 : Option V), σ = [some (.ref (ad .me)), some (.int (l : Nat)), some (.ref (ad (.ln st.k l))), some (.int (it.box : Nat)), some (.ref da), some (.ref na), v6] ∧ Fr st.k ad ad H H' ∧ NetAt (cAt mg "Net") H' ad ((it.ns.take i).foldl endS s0) ∧ H' na = some (.tup (it.ns.map fun n => V.int (n : Nat))))) ⟨_, rfl, F0, N2, it3⟩ (fun i σ H' _ h => by obtain ⟨_, _, _, _, h⟩ := h; exact SqT.of h) ?_ ?_
      · rintro i y σ H3 hi h
        obtain ⟨v6, rfl, F3, N3, t3⟩ := h
        rw [List.getElem?_map] at hi
        obtain ⟨n, hn2, rfl⟩ := Option.map_eq_some_iff.mp hi
        have hi2 : i < it.ns.length := (List.getElem?_eq_some_iff.mp hn2).1
        obtain ⟨f1, f2, f3⟩ := fold_end (it.ns.take i) s0
        have w3 := w2.fold (it.ns.take i) (by rw [List.length_take, so]; omega)
        have nl : n < ((it.ns.take i).foldl endS s0).asked.length := by rw [f2, sa]; exact hn n (List.mem_of_getElem? hn2)
        obtain ⟨dx3, me3⟩ := N3.top
        try walk_at "go"
        intro H4 F4 N4
        rw [f1, sk] at F4
        have tk4 : TK H3 H4 := by
          have F5 : Fr ((it.ns.take i).foldl endS s0).k ad ad H3 H4 := by rw [f1, sk]; exact F4
          exact F5.tk N3
        refine ⟨some (.int (n : Nat)), rfl, F3.trans F4, ?_, tk4 _ _ t3⟩
        rw [take_snoc hn2, List.foldl_append]
        exact N4
      · rintro σ H3 h
        obtain ⟨v6, rfl, F3, N3, t3⟩ := h
        rw [List.length_map, List.take_length, ← tkt] at N3
        exact q H3 F3 N3
/-! SPLIT -/
omit B in
theorem pr_eqv {a b c d : Nat} : PyData.eqv (.tuple ([((a : Nat) : Int), ((b : Nat) : Int)].map PyData.int)) (.tuple ([((c : Nat) : Int), ((d : Nat) : Int)].map PyData.int)) = (decide (a = c) && decide (b = d)) := by
  by_cases h : a = c ∧ b = d
  · obtain ⟨rfl, rfl⟩ := h
    rw [tupI_refl, decide_eq_true rfl, decide_eq_true rfl]
    rfl
  · have e : (decide (a = c) && decide (b = d)) = false := by
      rw [Bool.and_eq_false_iff, decide_eq_false_iff_not, decide_eq_false_iff_not]
      omega
    rw [e]
    refine Ly.ne Ly.tupI Ly.tupI fun z => h ?_
    have z2 := PyData.tuple.inj z
    rw [List.map_cons, List.map_cons, List.map_cons, List.map_cons] at z2
    obtain ⟨z3, z4⟩ := List.cons.inj z2
    obtain ⟨z5, _⟩ := List.cons.inj z4
    exact ⟨Int.ofNat.inj (PyData.int.inj z3), Int.ofNat.inj (PyData.int.inj z5)⟩
/-- how many joinings a switch remembers -/
def joinsS (st : NS) (s n : Nat) : Nat := (st.prs.filter fun x => decide (x.1 = s) && decide (x.2.1 = n)).length
def spJoins (K : PySem.W.Frag) (C : Addr) : Sp := fun vs H Q _ => ∃ (ad : Nm → Addr) (st : NS) (s n : Nat), vs = [.ref (ad .me), .int (s : Nat), .int (n : Nat)] ∧ NetAt C H ad st ∧ st.k ≤ 4 ∧ 1 ≤ s ∧ s ≤ st.k ∧ n < 2 ^ st.k / 2 ∧ st.prs.length ≤ 1000 ∧ ∀ H', Same H H' → Q (.int (joinsS st s n : Nat)) H'
theorem k_Net__joinings (D : DfM K (cAt mg "Net") "joinings" "Net.joinings" s_Net__joinings ["self", "stage", "number"]) (D_is_within : Dn P w K mg base 2 "is_within" ["thing", "least", "most"] spIsWithin) (D_is_place : Dn P w K mg base 4 "is_place" ["k", "thing"] (spPlace K)) : DnM P w K mg base (cAt mg "Net") 14 "joinings" ["self", "stage", "number"] (spJoins K (cAt mg "Net")) := by
  refine D.ok fun f fd F => okG0 F sc_Net__joinings (fun vs H Q E h => ?_) (fun cdv A outer s H vs Q E hr h => ⟨_, (pss_cons (ps_if (PW.pt (pw_or (pt_not (pt_truth (pe_cD D_is_within (hr.less (by decide)) rfl (pa_cons (pv 1) (pa_cons pe_int (pa_cons (kk (K := K) (F := fun K => tFld K _ _) (P := PE _ _) (pe_fld (pv 0) rfl)) pa_nil)))) (by intro _; rfl))) (pw_or1 (pt_not (pt_val (pe_cD D_is_place (hr.less (by decide)) rfl (pa_cons (kk (K := K) (F := fun K => tFld K _ _) (P := PE _ _) (pe_fld (pv 0) rfl)) (pa_cons (pe_tup (pa_cons (pv 1) (pa_cons (pv 2) pa_nil))) pa_nil))))))))
      (pss_one ps_never)
      pss_nil)
    (pss_one (ps_ret (pe_callB (lenK (K := K)) (by rfl) B.len_ (by decide +kernel) (pa_cons (pe_lc (own := [("pair", 3)]) (g := gName 3) rfl sc_Net__joinings.nd (kk (K := K) (F := fun K => iList K _) (P := PI _ _ _) (pi_list (kk (K := K) (F := fun K => tFld K _ _) (P := PE _ _) (pe_fld (pv 0) rfl)))) (blkOk_by (own := [("pair", 3)]) (N := ["self", "stage", "number", "pair"]) (sc := defScope s_Net__joinings) (by decide +kernel)) (fun _ _ _ _ _ => (pg_name (i := 3) sc_Net__joinings.nd rfl (Or.inl rfl))) (fun _ _ _ _ _ => (pts_one (pt_cmpR (kk (K := K) (F := rEqD) (P := OpR _ _) (op_eqD hr.units)) (pe_slice (kk (K := K) (F := rSlT) (P := L2.SlR _) sl_tup) (pv 3) po_none (po_some pe_int)) (pe_tup (pa_cons (pv 1) (pa_cons (pv 2) pa_nil))) (nomark _)))) (fun _ _ _ _ _ => (pv 3))) pa_nil))))), ?_⟩)
  · obtain ⟨ad, st, x, n, rfl, _⟩ := h; rfl
  · obtain ⟨ad, st, x, n, rfl, N, hk, h1, h2, hn, hp, q⟩ := h
    obtain ⟨cl0, n1, n2, n3, n4, n5, n6, n7, n8, n9, n10, n11⟩ := netNo B
    obtain ⟨dx, me⟩ := N.top
    have e1 : (1 : Int) ≤ (x : Int) := by omega
    have e2 : (x : Int) ≤ (st.k : Int) := by omega
    have pl : Plc st.k x n := ⟨h2, by rw [if_neg (by omega)]; exact hn⟩
    obtain ⟨ts, pa1, pa2, pa3⟩ := N.pa_
    try walk_at "go"
    intro t ht
    generalize eH1 : upd _ t _ = H1
    have SH1 := newS eH1 ht
    have ot := newO eH1
    have me1 := SH1 _ _ me
    have pa11 := SH1 _ _ pa1
    try walk_at "go"
    intro D hD
    refine lc_list (K := K) (a := ad .pa) (xs := ts.map fun x => V.ref x.1) (fun i H' => Same H1 H' ∧ H' (ad .pa) = some (.lst (ts.map fun x => V.ref x.1)) ∧ H' D = some (.lst (((ts.take i).filter fun y => decide (y.2.1 = x) && decide (y.2.2.1 = n)).map fun y => V.ref y.1))) ⟨same_new hD _, (same_new hD _) _ _ pa11, upd_same⟩ (fun i H' _ h => SqL.of h.2.1) ?_ ?_
    · rintro i v H2 hi ⟨S2, p2, d2⟩
      rw [List.getElem?_map] at hi
      obtain ⟨y, hy, rfl⟩ := Option.map_eq_some_iff.mp hi
      have yt := S2 _ _ (SH1 _ _ (pa3 y (List.mem_of_getElem? hy)))
      have hlt : i < ts.length := (List.getElem?_eq_some_iff.mp hy).1
      try walk_at "go"
      refine ⟨(show ¬ (HT.sIx 3 0 none = 0 ∧ HT.sIx 3 3 (some 2) = 3) by decide), ?_⟩
      intro p hp
      generalize eH3 : upd _ p _ = H3
      have SH3 := newS eH3 hp
      have op := newO eH3
      have op : H3 p = some (.tup [V.int (y.2.1 : Nat), V.int (y.2.2.1 : Nat)]) := op
      try walk_at "go"
      intro r hr
      generalize eH4 : upd _ r _ = H4
      have SH4 := newS eH4 hr
      have or := newO eH4
      have op4 := SH4 _ _ op
      have S24 := SH3.trans SH4
      have d4 := S24 _ _ d2
      have p4 := S24 _ _ p2
      have al : (((ts.take i).filter fun y => decide (y.2.1 = x) && decide (y.2.2.1 = n)).map fun y => V.ref y.1).length ≤ 1000 := by
        have a1 := List.length_filter_le (fun y : Addr × Nat × Nat × Nat => decide (y.2.1 = x) && decide (y.2.2.1 = n)) (ts.take i)
        have a2 : ts.length = st.prs.length := by rw [← pa2, List.length_map]
        rw [List.length_take] at a1
        rw [List.length_map]
        omega
      refine ⟨_, _, tupI_dp (ns := [(y.2.1 : Nat), (y.2.2.1 : Nat)]) (SqT.of op4), tupI_dp (ns := [(x : Nat), (n : Nat)]) (SqT.of or), tupI_sh _, tupI_sh _, _, rfl, ?_⟩
      have ev : PyData.eqv (.tuple ([((y.2.1 : Nat) : Int), ((y.2.2.1 : Nat) : Int)].map PyData.int)) (.tuple ([((x : Nat) : Int), ((n : Nat) : Int)].map PyData.int)) = (decide (y.2.1 = x) && decide (y.2.2.1 = n)) := pr_eqv
      rw [ev]
      cases ec : (decide (y.2.1 = x) && decide (y.2.2.1 = n)) with
      | true =>
        refine ifT rfl ?_
        try walk_at "go"
        refine ⟨Nat.lt_of_le_of_lt al (by decide), but_same hD (S2.trans S24) But.upd, ?_, ?_⟩
        · have nd : ad .pa ≠ D := fun z => by rw [z, hD] at pa11; cases pa11
          rw [upd_ne nd]
          exact p4
        · rw [upd_same, take_snoc hy, List.filter_append, List.filter_cons, ec, List.map_append]
          rfl
      | false =>
        refine ifF rfl ?_
        exact ⟨S2.trans S24, p4, by rw [d4, take_snoc hy, List.filter_append, List.filter_cons, ec]; show _ = some (HO.lst ((_ ++ []).map _)); rw [List.append_nil]⟩
    · rintro H2 ⟨S2, p2, d2⟩
      rw [List.length_map, List.take_length] at d2
      have el : (ts.filter fun y => decide (y.2.1 = x) && decide (y.2.2.1 = n)).length = joinsS st x n := by
        unfold joinsS
        rw [← pa2, List.filter_map, List.length_map]
        rfl
      try walk_at "go"
      rw [List.length_map, el]
      exact q H2 (SH1.trans S2)
/-! SPLIT -/
/-- the places at which an ask of a box waits -/
def alkS (b : Nat) (L : List Itm) : List Nat := (List.range L.length).filter fun j => decide ((L.getD j ⟨0, ⟨0, none, none⟩, []⟩).box = b)
/-- the line on which an ask goes on behind a switch -/
def outS (k s n b : Nat) : Nat := lnS k s n (b % 2 ^ k / 2 ^ (k - s) % 2)
/-- whether an ask goes on through a switch, and what is then -/
def doesS (st : NS) (s n : Nat) (it : Itm) : NS × Bool :=
  let l := outS st.k s n it.box
  let L := st.rows s l
  match (alkS it.box L).getLast? with
  | some j =>
    if joinsS st s n < st.kept then
      let o := L.getD j ⟨0, ⟨0, none, none⟩, []⟩
      ({ st with rows := fun a b => if a = s ∧ b = l then L.set j ⟨it.box, beh o.d it.d, o.ns ++ it.ns⟩ else st.rows a b, prs := st.prs ++ [(s, n, it.ns.headD 0)] }, true)
    else if L.length < st.room then ({ st with rows := fun a b => if a = s ∧ b = l then L ++ [it] else st.rows a b }, true)
    else (st, false)
  | none =>
    if L.length < st.room then ({ st with rows := fun a b => if a = s ∧ b = l then L ++ [it] else st.rows a b }, true)
    else (st, false)
omit B in
theorem outS_lt {k s n b : Nat} (hk : k ≤ 4) (h1 : 1 ≤ s) (h2 : s ≤ k) (hn : n < 2 ^ k / 2) : outS k s n b < 2 ^ k := by
  have key : ∀ (k s : Fin 5) (n : Fin 8) (f : Fin 2), (1 ≤ s.1 ∧ s.1 ≤ k.1 ∧ n.1 < 2 ^ k.1 / 2) → lnS k.1 s.1 n.1 f.1 < 2 ^ k.1 := by decide +kernel
  have p : 2 ^ k / 2 ≤ 8 := by
    have : 2 ^ k ≤ 2 ^ 4 := Nat.pow_le_pow_right (by decide) hk
    omega
  exact key ⟨k, by omega⟩ ⟨s, by omega⟩ ⟨n, by omega⟩ ⟨_, Nat.mod_lt _ (by decide)⟩ ⟨h1, h2, hn⟩
omit B in
theorem at_neg {xs : List V} {i : Nat} {v : V} (h : xs.length = i + 1) (e : xs[i]? = some v) : atI xs (-1) = some v := by
  unfold atI ixN
  have h1 : ¬ (0 : Int) ≤ -1 := by decide
  have h2 : -(xs.length : Int) ≤ -1 := by omega
  simp only [h1, if_false, h2, if_true]
  show xs[((xs.length : Int) + -1).toNat]? = _
  rw [show ((xs.length : Int) + -1).toNat = i by omega, e]
omit B in
theorem NetAt.paP {C : Addr} {H H1 : Hp} {ad : Nm → Addr} {st : NS} {vs : List V} {ps : List (Nat × Nat × Nat)} (N : NetAt C H ad st) (e : upd H (ad .pa) (.lst vs) = H1) (h : ∃ ts : List (Addr × Nat × Nat × Nat), vs = ts.map (fun x => V.ref x.1) ∧ ts.map (fun x => x.2) = ps ∧ ∀ x ∈ ts, H x.1 = some (.tup [.int (x.2.1 : Nat), .int (x.2.2.1 : Nat), .int (x.2.2.2 : Nat)])) : NetAt C H1 ad { st with prs := ps } ∧ Fr st.k ad ad H H1 := by
  have b : But (ad .pa) H H1 := e ▸ But.upd
  have o1 : H1 (ad .pa) = some (.lst vs) := e ▸ upd_same
  obtain ⟨o, g1, g2⟩ := (N.at_ .pa trivial).some
  have tk := TK.but g1 g2 b
  refine ⟨N.put (n := .pa) trivial b rfl (fun m hm z => ?_) ?_, Fr.but (n := .pa) trivial b o1⟩
  · cases m <;> first | exact z | exact absurd rfl hm
  · obtain ⟨ts, h1, h2, h3⟩ := h
    exact ⟨ts, by rw [o1, h1], h2, fun x hx => tk _ _ (h3 x hx)⟩
def spDoes (K : PySem.W.Frag) (C : Addr) : Sp := fun vs H Q _ => ∃ (ad : Nm → Addr) (st : NS) (s n : Nat) (t : Addr) (it : Itm), vs = [.ref (ad .me), .int (s : Nat), .int (n : Nat), .ref t] ∧ NetAt C H ad st ∧ Wf st ∧ ItAt H t it ∧ it.box < 16 ∧ it.ns ≠ [] ∧ 1 ≤ s ∧ s ≤ st.k ∧ n < 2 ^ st.k / 2 ∧ st.prs.length ≤ 900 ∧ (∀ l, (st.rows s l).length ≤ 40) ∧ (∀ l, ∀ o ∈ st.rows s l, o.ns ≠ [] ∧ o.ns.length ≤ 40) ∧ it.ns.length ≤ 40 ∧ ∀ H', Fr st.k ad ad H H' → NetAt C H' ad (doesS st s n it).1 → Q (.bl (doesS st s n it).2) H'
theorem k_Net__does_go (D : DfM K (cAt mg "Net") "does_go" "Net.does_go" s_Net__does_go ["self", "stage", "number", "one"]) (D_line_of : Dn P w K mg base 1 "line_of" ["k", "stage", "number", "figure"] spLineS) (D_figure_of : Dn P w K mg base 1 "figure_of" ["k", "line", "stage"] spFigOf) (D_side_of_box : Dn P w K mg base 1 "side_of_box" ["k", "box"] spSide4) (D_Net__joinings : DnM P w K mg base (cAt mg "Net") 14 "joinings" ["self", "stage", "number"] (spJoins K (cAt mg "Net"))) (D_one_behind : Dn P w K mg base 2 "one_behind" ["one", "other"] (spBehind K)) : DnM P w K mg base (cAt mg "Net") 15 "does_go" ["self", "stage", "number", "one"] (spDoes K (cAt mg "Net")) := by
  refine D.ok fun f fd F => okG0 F sc_Net__does_go (fun vs H Q E h => ?_) (fun cdv A outer s H vs Q E hr h => ⟨_, (pss_cons (ps_asg (pv 3) (kk (K := K) (F := fun K => gTup K 3 _) (P := PG _ _) (pg_tup rfl (pgs_cons (pg_name (i := 4) sc_Net__does_go.nd rfl (Or.inr rfl)) (pgs_cons (pg_name (i := 5) sc_Net__does_go.nd rfl (Or.inl rfl)) (pgs_cons (pg_name (i := 6) sc_Net__does_go.nd rfl (Or.inl rfl)) pgs_nil))))))
    (pss_cons (ps_set (i := 7) sc_Net__does_go.nd rfl (Or.inl rfl) (kk (K := K) (F := fun K => tFld K _ _) (P := PE _ _) (pe_fld (pv 0) rfl)))
    (pss_cons (ps_set (i := 8) sc_Net__does_go.nd rfl (Or.inl rfl) (pe_ix (kk (K := K) (F := rIxL) (P := IxR _) ix_list) (pe_ix (kk (K := K) (F := rIxL) (P := IxR _) ix_list) (kk (K := K) (F := fun K => tFld K _ _) (P := PE _ _) (pe_fld (pv 0) rfl)) (pv 1) (fun _ _ => rfl)) (pe_cD D_line_of (hr.less (by decide)) rfl (pa_cons (pv 7) (pa_cons (pv 1) (pa_cons (pv 2) (pa_cons (pe_cD D_figure_of (hr.less (by decide)) rfl (pa_cons (pv 7) (pa_cons (pe_cD D_side_of_box (hr.less (by decide)) rfl (pa_cons (pv 7) (pa_cons (pv 4) pa_nil))) (pa_cons (pv 1) pa_nil)))) pa_nil))))) (fun _ _ => rfl)))
    (pss_cons (ps_setLc (i := 10) (own := [("place", 11), ("other", 9)]) rfl sc_Net__does_go.nd rfl rfl (sw_true rfl rfl rfl (by decide +kernel)) (kk (K := K) (F := fun K => iEnum K _) (P := PI _ _ _) (pi_enum (by rfl) B.enumerate_ (pa_cons (pv 8) pa_nil))) (blkOk_by (own := [("place", 11), ("other", 9)]) (N := ["self", "stage", "number", "one", "box", "deed", "numbers", "k", "there", "other", "alike", "place"]) (sc := defScope s_Net__does_go) (by decide +kernel)) (fun _ _ _ _ _ => (kk (K := K) (F := fun K => gTup K 2 _) (P := PG _ _) (pg_tup rfl (pgs_cons (pg_name (i := 11) sc_Net__does_go.nd rfl (Or.inl rfl)) (pgs_cons (pg_name (i := 9) sc_Net__does_go.nd rfl (Or.inl rfl)) pgs_nil))))) (fun _ _ _ _ _ => (pts_one (pt_cmpR op_eq (pe_ix (kk (K := K) (F := rIxT) (P := IxR _) ix_tup) (pv 9) pe_int (fun _ _ => rfl)) (pv 4) (nomark _)))) (fun _ _ _ _ _ => (pv 11)))
    (pss_cons (ps_if (PW.pt (pw_and (pt_cmpR (kk (K := K) (F := rNeNil) (P := OpR _ _) (op_neNil hr.units)) (pv 10) (pe_lst pa_nil) (nomark _)) (pw_and1 (pt_cmpR op_lt (pe_mG D_Net__joinings B.Net_.cl (hr.less (by decide)) (pv 0) (pa_cons (pv 1) (pa_cons (pv 2) pa_nil))) (kk (K := K) (F := fun K => tFld K _ _) (P := PE _ _) (pe_fld (pv 0) rfl)) (nomark _)))))
      (pss_cons (ps_set (i := 9) sc_Net__does_go.nd rfl (Or.inl rfl) (pe_ix (kk (K := K) (F := rIxL) (P := IxR _) ix_list) (pv 8) (pe_ix (kk (K := K) (F := rIxL) (P := IxR _) ix_list) (pv 10) (pe_un un_neg pe_int) (fun _ _ => rfl)) (fun _ _ => rfl)))
      (pss_cons (ps_asg (pe_tup (pa_cons (pv 4) (pa_cons (pe_cD D_one_behind (hr.less (by decide)) rfl (pa_cons (pe_ix (kk (K := K) (F := rIxT) (P := IxR _) ix_tup) (pv 9) pe_int (fun _ _ => rfl)) (pa_cons (pv 5) pa_nil))) (pa_cons (pe_op (kk (K := K) (F := rCatT) (P := OpR _ _) op_catT) (pe_ix (kk (K := K) (F := rIxT) (P := IxR _) ix_tup) (pv 9) pe_int (fun _ _ => rfl)) (pv 6)) pa_nil)))) (pg_sub (pv 8) (pe_ix (kk (K := K) (F := rIxL) (P := IxR _) ix_list) (pv 10) (pe_un un_neg pe_int) (fun _ _ => rfl)) set_list))
      (pss_cons (ps_expr (kk (K := K) (F := fun K => tBM K "list" _ _ _) (P := PE _ _) (pe_bm PySem.F.plainAttrs_list PySem.F.slot_list_append PySem.F.type_list_append mt_append (kk (K := K) (F := fun K => tFld K _ _) (P := PE _ _) (pe_fld (pv 0) rfl)) (pa_cons (pe_tup (pa_cons (pv 1) (pa_cons (pv 2) (pa_cons (pe_ix (kk (K := K) (F := rIxT) (P := IxR _) ix_tup) (pv 6) pe_int (fun _ _ => rfl)) pa_nil)))) pa_nil))))
      (pss_one (ps_ret pe_bl)))))
      pss_nil)
    (pss_cons (ps_if (pt_cmpR op_lt (pe_callB (lenK (K := K)) (by rfl) B.len_ (by decide +kernel) (pa_cons (pv 8) pa_nil)) (kk (K := K) (F := fun K => tFld K _ _) (P := PE _ _) (pe_fld (pv 0) rfl)) (nomark _))
      (pss_cons (ps_expr (kk (K := K) (F := fun K => tBM K "list" _ _ _) (P := PE _ _) (pe_bm PySem.F.plainAttrs_list PySem.F.slot_list_append PySem.F.type_list_append mt_append (pv 8) (pa_cons (pv 3) pa_nil))))
      (pss_one (ps_ret pe_bl)))
      pss_nil)
    (pss_one (ps_ret pe_bl)))))))), ?_⟩)
  · obtain ⟨ad, st, x, n, t, it, rfl, _⟩ := h; rfl
  · obtain ⟨ad, st, x, n, t, it, rfl, N, hw, ht, hb, hns, h1, h2, hn, hp, hr, hro, hi40, q⟩ := h
    obtain ⟨cl0, n1, n2, n3, n4, n5, n6, n7, n8, n9, n10, n11⟩ := netNo B
    obtain ⟨dx, me⟩ := N.top
    have hk := hw.k4
    have ol := outS_lt (b := it.box) hk h1 h2 hn
    have rw0 := N.rw_
    have lv0 := N.lv_ h2
    obtain ⟨ts, ln1, ln2, ln3⟩ := N.ln_ h2 ol
    obtain ⟨da, na, it1, it2, it3⟩ := ht
    have x1 : atI ((List.range (st.k + 1)).map fun j => V.ref (ad (.lv j))) (x : Int) = some (.ref (ad (.lv x))) := at_of (j := x) rfl (by rw [List.getElem?_map, List.getElem?_range (by omega)] <;> rfl)
    have x2 : atI ((List.range (2 ^ st.k)).map fun l => V.ref (ad (.ln x l))) (outS st.k x n it.box : Int) = some (.ref (ad (.ln x (outS st.k x n it.box)))) := at_of (j := outS st.k x n it.box) rfl (by rw [List.getElem?_map, List.getElem?_range ol] <;> rfl)
    have sl : it.box % 2 ^ st.k < 16 := Nat.lt_of_le_of_lt (Nat.mod_le _ _) hb
    have n16 : n < 16 := by
      have : 2 ^ st.k ≤ 2 ^ 4 := Nat.pow_le_pow_right (by decide) hk
      omega
    have f2 : it.box % 2 ^ st.k / 2 ^ (st.k - x) % 2 < 2 := Nat.mod_lt _ (by decide)
    try walk_at "go"
    intro D hD
    have eL : ts.length = (st.rows x (outS st.k x n it.box)).length := by rw [← ln2, List.length_map]
    have l40 : ts.length ≤ 40 := by rw [eL]; exact hr _
    refine lc_enum (K := K) (a := ad (.ln x (outS st.k x n it.box))) (xs := ts.map fun z => V.ref z.1) (fun i H' => Same H H' ∧ H' D = some (.lst (((List.range i).filter fun j => decide (((st.rows x (outS st.k x n it.box)).getD j ⟨0, ⟨0, none, none⟩, []⟩).box = it.box)).map fun j => V.int (j : Nat)))) ⟨same_new hD _, upd_same⟩ (fun i H' _ h => SqL.of (h.1 _ _ ln1)) ?_ ?_
    · rintro i v T H2 hi ⟨S2, d2⟩ hT
      --[
      rw [List.getElem?_map] at hi
      obtain ⟨y, hy, rfl⟩ := Option.map_eq_some_iff.mp hi
      have hlt : i < ts.length := (List.getElem?_eq_some_iff.mp hy).1
      obtain ⟨db, nb, y1, y2, y3⟩ := ln3 y (List.mem_of_getElem? hy)
      generalize eH3 : upd _ T (HO.tup [.int (i : Nat), .ref y.1]) = H3
      have SH3 := newS eH3 hT
      have oT := newO eH3
      have y1 := SH3 _ _ (S2 _ _ y1)
      have d3 := SH3 _ _ d2
      have eY : (st.rows x (outS st.k x n it.box)).getD i ⟨0, ⟨0, none, none⟩, []⟩ = y.2 := by rw [← ln2, List.getD_eq_getElem?_getD, List.getElem?_map, hy] <;> rfl
      have al : (((List.range i).filter fun j => decide (((st.rows x (outS st.k x n it.box)).getD j ⟨0, ⟨0, none, none⟩, []⟩).box = it.box)).map fun j => V.int (j : Nat)).length ≤ 40 := by
        have a1 := List.length_filter_le (fun j => decide (((st.rows x (outS st.k x n it.box)).getD j ⟨0, ⟨0, none, none⟩, []⟩).box = it.box)) (List.range i)
        rw [List.length_range] at a1
        rw [List.length_map]
        omega
      try walk_at "go"
      have eB : decide (V.int (y.2.box : Nat) = V.int (it.box : Nat)) = decide (y.2.box = it.box) := decide_eq_decide.mpr ⟨fun z => by have := V.int.inj z; omega, fun z => by rw [z]⟩
      by_cases c : y.2.box = it.box
      · refine ifT (by rw [eB, decide_eq_true c]) ?_
        try walk_at "go"
        refine ⟨but_same hD (S2.trans SH3) But.upd, ?_⟩
        rw [upd_same, List.range_succ, List.filter_append, List.map_append, List.filter_cons, eY, decide_eq_true c]
        rfl
      · refine ifF (by rw [eB, decide_eq_false c]) ?_
        exact ⟨S2.trans SH3, by rw [d3, List.range_succ, List.filter_append, List.map_append, List.filter_cons, eY, decide_eq_false c]; show _ = some (HO.lst (_ ++ [])); rw [List.append_nil]⟩
      --]
    · rintro H2 ⟨S2, d2⟩
      rw [List.length_map, eL] at d2
      have d2 : H2 D = some (.lst ((alkS it.box (st.rows x (outS st.k x n it.box))).map fun j => V.int (j : Nat))) := d2
      have N2 := N.same S2
      have me2 := S2 _ _ me
      try walk_at "go"
      intro p hp
      generalize eH3 : upd _ p _ = H3
      have SH3 := newS eH3 hp
      have op := newO eH3
      have d3 := SH3 _ _ d2
      have me3 := SH3 _ _ me2
      have N3 := N2.same SH3
      have S3 := S2.trans SH3
      have ln13 := S3 _ _ ln1
      have it11 := S3 _ _ it1
      have fin : (∀ H', Fr st.k ad ad H H' → NetAt (cAt mg "Net") H' ad (if (st.rows x (outS st.k x n it.box)).length < st.room then (({ st with rows := fun a b => if a = x ∧ b = outS st.k x n it.box then st.rows x (outS st.k x n it.box) ++ [it] else st.rows a b } : NS), true) else (st, false)).1 → Q (.bl (if (st.rows x (outS st.k x n it.box)).length < st.room then (({ st with rows := fun a b => if a = x ∧ b = outS st.k x n it.box then st.rows x (outS st.k x n it.box) ++ [it] else st.rows a b } : NS), true) else (st, false)).2) H') → ∀ (H4 : Hp), Same H H4 → ∀ (b : Bool), b = decide (((ts.map fun z => V.ref z.1).length : Int) < (st.room : Int)) → ∀ (yes no : Prop), ((∀ H5, upd H4 (ad (.ln x (outS st.k x n it.box))) (.lst ((ts.map fun z => V.ref z.1) ++ [.ref t])) = H5 → Q (.bl true) H5) → yes) → (Q (.bl false) H4 → no) → if b = true then yes else no := by
        intro q H4 S4 b eb yes no hy hno
        have eb2 : b = decide ((st.rows x (outS st.k x n it.box)).length < st.room) := by rw [eb, List.length_map, eL]; exact decide_eq_decide.mpr (by omega)
        by_cases c : (st.rows x (outS st.k x n it.box)).length < st.room
        · rw [if_pos c] at q
          refine ifT (by rw [eb2, decide_eq_true c]) (hy fun H5 e5 => ?_)
          obtain ⟨N5, F5, _⟩ := (N.same S4).lnP (its := st.rows x (outS st.k x n it.box) ++ [it]) h2 ol e5 ⟨ts ++ [(t, it)], by rw [List.map_append]; rfl, by rw [List.map_append, ln2]; rfl, fun z hz => by
            rcases List.mem_append.mp hz with g | g
            · exact (ln3 z g).tk (TK.same S4)
            · rw [List.mem_singleton.mp g]
              exact ⟨da, na, S4 _ _ it1, S4 _ _ it2, S4 _ _ it3⟩⟩
          exact q H5 ((Fr.same S4).trans F5) N5
        · rw [if_neg c] at q
          exact ifF (by rw [eb2, decide_eq_false c]) (hno (q H4 (Fr.same S4) (N.same S4)))
      unfold doesS at q
      rcases List.eq_nil_or_concat (alkS it.box (st.rows x (outS st.k x n it.box))) with ea | ⟨js, j, ea⟩
      · rw [ea] at d3
        --[
        simp only [ea] at q
        refine ⟨_, _, _, rfl, rfl, SqL.of d3, SqL.of op, _, rfl, ifF rfl ?_⟩
        try walk_at "go"
        refine fin q H3 S3 _ rfl _ _ (fun k5 => ?_) (fun k5 => k5)
        try walk_at "go"
        exact k5 _ rfl
        --]
      · rw [List.concat_eq_append] at ea
        rw [ea] at d3
        simp only [ea, List.getLast?_append, List.getLast?_singleton, Option.some_or] at q
        refine ⟨_, _, _, rfl, rfl, SqL.of d3, SqL.of op, _, rfl, ifT (by cases js <;> rfl) ?_⟩
        have e1 : 1 ≤ x := h1
        have p1000 : st.prs.length ≤ 1000 := by omega
        try walk_at "go"
        intro H4 S34
        have S4 := S3.trans S34
        have me4 := S34 _ _ me3
        have d4 := S34 _ _ d3
        have ln14 := S34 _ _ ln13
        have it14 := S34 _ _ it11
        have N4 := N3.same S34
        by_cases c : joinsS st x n < st.kept
        · simp only [if_pos c] at q
          have jm : j < ts.length := by
            have : j ∈ alkS it.box (st.rows x (outS st.k x n it.box)) := by rw [ea]; exact List.mem_append_right _ (List.mem_singleton_self j)
            unfold alkS at this
            rw [eL]
            exact List.mem_range.mp (List.mem_filter.mp this).1
          have eG : (st.rows x (outS st.k x n it.box)).getD j ⟨0, ⟨0, none, none⟩, []⟩ = ts[j].2 := by rw [← ln2, List.getD_eq_getElem?_getD, List.getElem?_map, List.getElem?_eq_getElem jm] <;> rfl
          obtain ⟨db, nb, y1, y2, y3⟩ := ln3 ts[j] (List.getElem_mem jm)
          have y1 := S4 _ _ y1
          have y2 := S4 _ _ y2
          have y3 := S4 _ _ y3
          have sy2 : SqT K H4 db ts[j].2.d.vs := SqT.of y2
          have sda : SqT K H4 da it.d.vs := SqT.of (S4 _ _ it2)
          have it34 := S4 _ _ it3
          have a1 : atI ((js ++ [j]).map fun j => V.int (j : Nat)) (-1) = some (.int (j : Nat)) := at_neg (i := js.length) (by rw [List.length_map, List.length_append]; rfl) (by rw [List.getElem?_map, List.getElem?_concat_length]; rfl)
          have a2 : atI (ts.map fun z => V.ref z.1) (j : Int) = some (.ref ts[j].1) := at_of (j := j) rfl (by rw [List.getElem?_map, List.getElem?_eq_getElem jm] <;> rfl)
          have x4 : ixN (ts.map fun z => V.ref z.1).length (j : Int) = some j := ixn (by rw [List.length_map]; exact jm)
          try walk_at "go"
          refine ifT (decide_eq_true (by omega)) ?_
          try walk_at "go"
          intro dd H5 S5 hdd od
          have d5 := S5 _ _ d4
          have me5 := S5 _ _ me4
          have ln15 := S5 _ _ ln14
          have y15 := S5 _ _ y1
          have y35 := S5 _ _ y3
          have it35 := S5 _ _ it34
          obtain ⟨oj1, oj2⟩ := hro (outS st.k x n it.box) ts[j].2 (by rw [← ln2]; exact List.mem_map.mpr ⟨_, List.getElem_mem jm, rfl⟩)
          have sn1 : (ts[j].2.ns.map fun n => V.int (n : Nat)).length ≤ 50 := by rw [List.length_map]; omega
          have sn2 : (it.ns.map fun n => V.int (n : Nat)).length ≤ 50 := by rw [List.length_map]; omega
          try walk_at "go"
          refine ⟨fun z => oj1 (List.map_eq_nil_iff.mp z), Nat.le_trans (Nat.add_le_add sn1 sn2) (by decide), fun z => absurd (List.map_eq_nil_iff.mp z) hns, fun _ => ?_⟩
          intro ne hne
          generalize eH6 : upd _ ne _ = H6
          have SH6 := newS eH6 hne
          have one := newO eH6
          have one : H6 ne = some (.tup ((ts[j].2.ns ++ it.ns).map fun n => V.int (n : Nat))) := by rw [List.map_append]; exact one
          have d6 := SH6 _ _ d5
          have me6 := SH6 _ _ me5
          have ln16 := SH6 _ _ ln15
          try walk_at "go"
          intro tt htt
          generalize eH7 : upd _ tt _ = H7
          have SH7 := newS eH7 htt
          have ott := newO eH7
          have d7 := SH7 _ _ d6
          have me7 := SH7 _ _ me6
          have ln17 := SH7 _ _ ln16
          have na7 := SH7 _ _ (SH6 _ _ it35)
          try walk_at "go"
          generalize e8 : upd H7 (ad (.ln x (outS st.k x n it.box))) _ = H8
          have S7 : Same H H7 := S4.trans (S5.trans (SH6.trans SH7))
          have N7 := N.same S7
          obtain ⟨N8, F8, K8⟩ := N7.lnP (its := (st.rows x (outS st.k x n it.box)).set j ⟨it.box, beh ts[j].2.d it.d, ts[j].2.ns ++ it.ns⟩) h2 ol e8 ⟨ts.set j (tt, ⟨it.box, beh ts[j].2.d it.d, ts[j].2.ns ++ it.ns⟩), by rw [List.map_set], by rw [List.map_set, ln2], fun z hz => by
            rcases List.mem_or_eq_of_mem_set hz with g | g
            · exact (ln3 z g).tk (TK.same S7)
            · rw [g]
              exact ⟨dd, ne, ott, SH7 _ _ (SH6 _ _ od), SH7 _ _ one⟩⟩
          have me8 := K8 .me _ trivial (fun z => by cases z) me7
          obtain ⟨us, pa1, pa2, pa3⟩ := N7.pa_
          have pa8 := K8 .pa _ trivial (fun z => by cases z) pa1
          have tk8 := F8.tk N7
          have na8 := tk8 _ _ na7
          have a5 : atI (it.ns.map fun n => V.int (n : Nat)) 0 = some (.int (it.ns.headD 0 : Nat)) := by
            cases hh : it.ns with
            | nil => exact absurd hh hns
            | cons m ms => exact at_of (j := 0) rfl rfl
          have up : (us.map fun x => V.ref x.1).length ≤ 900 := by
            have : us.length = st.prs.length := by rw [← pa2, List.length_map]
            rw [List.length_map]
            omega
          try walk_at "go"
          intro pp hpp
          generalize eH9 : upd _ pp _ = H9
          have SH9 := newS eH9 hpp
          have opp := newO eH9
          have me9 := SH9 _ _ me8
          have pa9 := SH9 _ _ pa8
          try walk_at "go"
          generalize e10 : upd H9 (ad .pa) _ = H10
          obtain ⟨N10, F10⟩ := (N8.same SH9).paP (ps := st.prs ++ [(x, n, it.ns.headD 0)]) e10 ⟨us ++ [(pp, x, n, it.ns.headD 0)], by rw [List.map_append] <;> rfl, by rw [List.map_append, pa2] <;> rfl, fun z hz => by
            rcases List.mem_append.mp hz with g | g
            · exact SH9 _ _ (tk8 _ _ (pa3 z g))
            · rw [List.mem_singleton.mp g]
              exact opp⟩
          try walk_at "go"
          rw [eG] at q
          exact q H10 ((Fr.same S7).trans (F8.trans ((Fr.same SH9).trans F10))) N10
        · simp only [if_neg c] at q
          --[
          try walk_at "go"
          refine ifF (decide_eq_false (by omega)) ?_
          try walk_at "go"
          refine fin q H4 S4 _ rfl _ _ (fun k5 => ?_) (fun k5 => k5)
          try walk_at "go"
          exact k5 _ rfl
          --]
/-! SPLIT -/
/-- an in-line of a switch hands on -/
def hand1 (st : NS) (s n f : Nat) : NS :=
  let l := lnS st.k s n f
  match st.rows (s - 1) l with
  | [] => st
  | it :: its =>
    let r := doesS st s n it
    if r.2 = true then { r.1 with rows := fun a b => if a = s - 1 ∧ b = l then its else r.1.rows a b } else r.1
def handS (st : NS) (s n : Nat) : NS := hand1 (hand1 st s n (st.now % 2)) s n (1 - st.now % 2)
/-- what is on the lines fits -/
structure Wl (st : NS) : Prop where
  wf : Wf st
  prs : st.prs.length ≤ 800
  len : ∀ j l, (st.rows j l).length ≤ 40
  its : ∀ j l, ∀ it ∈ st.rows j l, it.box < 16 ∧ it.ns ≠ [] ∧ it.ns.length ≤ 40
omit B in
theorem doesS_k (st : NS) (s n : Nat) (it : Itm) : (doesS st s n it).1.k = st.k ∧ (doesS st s n it).1.now = st.now := by
  unfold doesS
  dsimp only
  split
  · split
    · exact ⟨rfl, rfl⟩
    · split <;> exact ⟨rfl, rfl⟩
  · split <;> exact ⟨rfl, rfl⟩
omit B in
theorem doesS_rows {st : NS} {s n : Nat} {it : Itm} {j l : Nat} (h : j ≠ s) : (doesS st s n it).1.rows j l = st.rows j l := by
  unfold doesS
  dsimp only
  split
  · split
    · exact if_neg fun z => h z.1
    · split
      · exact if_neg fun z => h z.1
      · rfl
  · split
    · exact if_neg fun z => h z.1
    · rfl
omit B in
theorem hand1_k (st : NS) (s n f : Nat) : (hand1 st s n f).k = st.k ∧ (hand1 st s n f).now = st.now := by
  unfold hand1
  dsimp only
  split
  · exact ⟨rfl, rfl⟩
  · split <;> exact doesS_k ..
omit B in
theorem lnS_lt {k s n f : Nat} (hk : k ≤ 4) (h1 : 1 ≤ s) (h2 : s ≤ k) (hn : n < 2 ^ k / 2) (hf : f < 2) : lnS k s n f < 2 ^ k := by
  have key : ∀ (k s : Fin 5) (n : Fin 8) (f : Fin 2), (1 ≤ s.1 ∧ s.1 ≤ k.1 ∧ n.1 < 2 ^ k.1 / 2) → lnS k.1 s.1 n.1 f.1 < 2 ^ k.1 := by decide +kernel
  have p : 2 ^ k / 2 ≤ 8 := by
    have : 2 ^ k ≤ 2 ^ 4 := Nat.pow_le_pow_right (by decide) hk
    omega
  exact key ⟨k, by omega⟩ ⟨s, by omega⟩ ⟨n, by omega⟩ ⟨f, hf⟩ ⟨h1, h2, hn⟩
def spHand (K : PySem.W.Frag) (C : Addr) : Sp := fun vs H Q _ => ∃ (ad : Nm → Addr) (st : NS) (s n : Nat), vs = [.ref (ad .me), .int (s : Nat), .int (n : Nat)] ∧ NetAt C H ad st ∧ Wl st ∧ Wl (hand1 st s n (st.now % 2)) ∧ 1 ≤ s ∧ s ≤ st.k ∧ n < 2 ^ st.k / 2 ∧ ∀ H', Fr st.k ad ad H H' → NetAt C H' ad (handS st s n) → Q .non H'
theorem k_Net__hand_on (D : DfM K (cAt mg "Net") "hand_on" "Net.hand_on" s_Net__hand_on ["self", "stage", "number"]) (D_line_of : Dn P w K mg base 1 "line_of" ["k", "stage", "number", "figure"] spLineS) (D_Net__does_go : DnM P w K mg base (cAt mg "Net") 15 "does_go" ["self", "stage", "number", "one"] (spDoes K (cAt mg "Net"))) : DnM P w K mg base (cAt mg "Net") 16 "hand_on" ["self", "stage", "number"] (spHand K (cAt mg "Net")) := by
  refine D.ok fun f fd F => okG0 F sc_Net__hand_on (fun vs H Q E h => ?_) (fun cdv A outer s H vs Q E hr h => ⟨_, (pss_cons (ps_set (i := 3) sc_Net__hand_on.nd rfl (Or.inl rfl) (pe_op op_mod (kk (K := K) (F := fun K => tFld K _ _) (P := PE _ _) (pe_fld (pv 0) rfl)) pe_int))
    (pss_one (ps_for PassesOwn.never rfl (kk (K := K) (F := fun K => iTup K _) (P := PI _ _ _) (pi_tup (pe_tup (pa_cons (pv 3) (pa_cons (pe_op op_sub pe_int (pv 3)) pa_nil))))) (pg_name (i := 4) sc_Net__hand_on.nd rfl (Or.inl rfl))
     (pss_cons (ps_set (i := 5) sc_Net__hand_on.nd rfl (Or.inl rfl) (pe_ix (kk (K := K) (F := rIxL) (P := IxR _) ix_list) (pe_ix (kk (K := K) (F := rIxL) (P := IxR _) ix_list) (kk (K := K) (F := fun K => tFld K _ _) (P := PE _ _) (pe_fld (pv 0) rfl)) (pe_op op_sub (pv 1) pe_int) (fun _ _ => rfl)) (pe_cD D_line_of (hr.less (by decide)) rfl (pa_cons (kk (K := K) (F := fun K => tFld K _ _) (P := PE _ _) (pe_fld (pv 0) rfl)) (pa_cons (pv 1) (pa_cons (pv 2) (pa_cons (pv 4) pa_nil))))) (fun _ _ => rfl)))
     (pss_one (ps_if (PW.pt (pw_and (pt_cmpR (kk (K := K) (F := rNeNil) (P := OpR _ _) (op_neNil hr.units)) (pv 5) (pe_lst pa_nil) (nomark _)) (pw_and1 (pt_val (pe_mG D_Net__does_go B.Net_.cl (hr.less (by decide)) (pv 0) (pa_cons (pv 1) (pa_cons (pv 2) (pa_cons (pe_ix (kk (K := K) (F := rIxL) (P := IxR _) ix_list) (pv 5) pe_int (fun _ _ => rfl)) pa_nil))))))))
      (pss_one (ps_expr (kk (K := K) (F := fun K => tBM K "list" _ _ _) (P := PE _ _) (pe_bm PySem.F.plainAttrs_list PySem.F.slot_list_pop PySem.F.type_list_pop mt_popAt (pv 5) (pa_cons pe_int pa_nil)))))
      pss_nil)))))), ?_⟩)
  · obtain ⟨ad, st, x, n, rfl, _⟩ := h; rfl
  · obtain ⟨ad, st, x, n, rfl, N, hw, hw2, h1, h2, hn, q⟩ := h
    obtain ⟨cl0, n1, n2, n3, n4, n5, n6, n7, n8, n9, n10, n11⟩ := netNo B
    obtain ⟨dx, me⟩ := N.top
    have em : (st.now : Int) % 2 = ((st.now % 2 : Nat) : Int) := by omega
    have e0 : (1 : Int) - (st.now : Int) % 2 = ((1 - st.now % 2 : Nat) : Int) := by omega
    try walk_at "go"
    intro p hp
    generalize eH1 : upd _ p _ = H1
    have SH1 := newS eH1 hp
    have op := newO eH1
    have op : H1 p = some (.tup ([st.now % 2, 1 - st.now % 2].map fun i => V.int (i : Nat))) := by
      rw [op]
      exact congrArg (fun z => some (HO.tup z)) (by rw [List.map_cons, List.map_cons, List.map_nil, ← em, ← e0] <;> rfl)
    have N1 := N.same SH1
    try walk_at "go"
    refine for_tup (K := K) (a := p) (xs := [st.now % 2, 1 - st.now % 2].map fun i => V.int (i : Nat)) (fun i σ H' => (∃ (v4 v5 : Option V), σ = [some (.ref (ad .me)), some (.int (x : Nat)), some (.int (n : Nat)), some (.int ((st.now : Int) % 2)), v4, v5] ∧ Fr st.k ad ad H H' ∧ NetAt (cAt mg "Net") H' ad (([st.now % 2, 1 - st.now % 2].take i).foldl (fun z f => hand1 z x n f) st) ∧ H' p = some (.tup ([st.now % 2, 1 - st.now % 2].map fun i => V.int (i : Nat))))) ⟨_, _, rfl, Fr.same SH1, N1, op⟩ (fun i σ H' _ h => by obtain ⟨_, _, _, _, _, h⟩ := h; exact SqT.of h) ?_ ?_
    · rintro i y σ H2 hi ⟨v4, v5, rfl, F2, N2, p2⟩
      rw [List.getElem?_map] at hi
      obtain ⟨f, hf, rfl⟩ := Option.map_eq_some_iff.mp hi
      obtain ⟨z, ez, wz, zk, f2, es⟩ : ∃ z, z = ([st.now % 2, 1 - st.now % 2].take i).foldl (fun z f => hand1 z x n f) st ∧ Wl z ∧ z.k = st.k ∧ f < 2 ∧ ([st.now % 2, 1 - st.now % 2].take (i + 1)).foldl (fun z f => hand1 z x n f) st = hand1 z x n f := by
        refine ⟨_, rfl, ?_⟩
        match i, hf with
        | 0, hf => cases hf; exact ⟨hw, rfl, by omega, rfl⟩
        | 1, hf => cases hf; exact ⟨hw2, (hand1_k ..).1, by omega, rfl⟩
        | j + 2, hf => exact absurd hf (by simp)
      simp only [es]
      rw [← ez] at N2
      rw [← zk] at h2 hn
      obtain ⟨dx2, me2⟩ := N2.top
      have hk := wz.wf.k4
      have rw2 := N2.rw_
      have lv2 := N2.lv_ (j := x - 1) (by omega)
      have ll := lnS_lt hk h1 h2 hn f2
      obtain ⟨ts, ln1, ln2, ln3⟩ := N2.ln_ (j := x - 1) (by omega) ll
      have x1 : atI ((List.range (z.k + 1)).map fun j => V.ref (ad (.lv j))) ((x : Int) - 1) = some (.ref (ad (.lv (x - 1)))) := by
        rw [show (x : Int) - 1 = ((x - 1 : Nat) : Int) by omega]
        exact at_of (j := x - 1) rfl (by rw [List.getElem?_map, List.getElem?_range (by omega)] <;> rfl)
      have x2 : atI ((List.range (2 ^ z.k)).map fun l => V.ref (ad (.ln (x - 1) l))) (lnS z.k x n f : Int) = some (.ref (ad (.ln (x - 1) (lnS z.k x n f)))) := at_of (j := lnS z.k x n f) rfl (by rw [List.getElem?_map, List.getElem?_range ll] <;> rfl)
      have n16 : n < 16 := by
        have : 2 ^ z.k ≤ 2 ^ 4 := Nat.pow_le_pow_right (by decide) hk
        omega
      try walk_at "go"
      intro p5 hp5
      generalize eH3 : upd _ p5 _ = H3
      have SH3 := newS eH3 hp5
      have op5 := newO eH3
      have ln3' := SH3 _ _ ln1
      have p3 := SH3 _ _ p2
      have me3 := SH3 _ _ me2
      have N3 := N2.same SH3
      have kF : ∀ {a b : Nm → Addr} {U W : Hp}, Fr z.k a b U W → Fr st.k a b U W := fun h => zk ▸ h
      cases ts with
      | nil =>
        refine ⟨_, _, _, rfl, rfl, SqL.of ln3', SqL.of op5, _, rfl, ifF rfl ?_⟩
        have eh : hand1 z x n f = z := by unfold hand1; dsimp only; rw [← ln2]; rfl
        rw [eh]
        exact ⟨_, _, rfl, F2.trans (Fr.same SH3), N3, p3⟩
      | cons y ts =>
        refine ⟨_, _, _, rfl, rfl, SqL.of ln3', SqL.of op5, _, rfl, ifT rfl ?_⟩
        obtain ⟨ya, it⟩ := y
        have rr : z.rows (x - 1) (lnS z.k x n f) = it :: ts.map (fun x => x.2) := ln2.symm
        have iy : ItAt H3 ya it := (ln3 (ya, it) (List.mem_cons_self ..)).tk (TK.same SH3)
        obtain ⟨i1, i2, i3⟩ := wz.its (x - 1) _ it (by rw [rr]; exact List.mem_cons_self ..)
        have a0 : atI (List.map (fun x => V.ref x.1) ((ya, it) :: ts)) 0 = some (.ref ya) := at_of (j := 0) rfl rfl
        have wf := wz.wf
        have pr9 : z.prs.length ≤ 900 := by have := wz.prs; omega
        have ln40 : ∀ l, (z.rows x l).length ≤ 40 := fun l => wz.len x l
        have it40 : ∀ l, ∀ o ∈ z.rows x l, o.ns ≠ [] ∧ o.ns.length ≤ 40 := fun l o ho => (wz.its x l o ho).2
        try walk_at "go"
        intro H4 F4 N4
        have tk4 := F4.tk N3
        have p4 := tk4 _ _ p3
        have F24 := F2.trans (kF ((Fr.same SH3).trans F4))
        obtain ⟨d1, d2⟩ := doesS_k z x n it
        have rs : (doesS z x n it).1.rows (x - 1) (lnS z.k x n f) = z.rows (x - 1) (lnS z.k x n f) := doesS_rows (by omega)
        obtain ⟨ts4, l1, l2, l3⟩ := N4.ln_ (j := x - 1) (l := lnS z.k x n f) (by rw [d1]; omega) (by rw [d1]; exact ll)
        rw [rs, rr] at l2
        have eh : hand1 z x n f = if (doesS z x n it).2 = true then { (doesS z x n it).1 with rows := fun a b => if a = x - 1 ∧ b = lnS z.k x n f then ts.map (fun x => x.2) else (doesS z x n it).1.rows a b } else (doesS z x n it).1 := by unfold hand1; dsimp only; rw [rr]
        refine ⟨_, rfl, ?_⟩
        cases ed : (doesS z x n it).2 with
        | false =>
          refine ifF rfl ?_
          rw [eh, ed]
          exact ⟨_, _, rfl, F24, N4, p4⟩
        | true =>
          refine ifT rfl ?_
          cases ts4 with
          | nil => cases l2
          | cons y4 ts4 =>
            have sx : seqIndex? 0 (List.map (fun x => V.ref x.1) (y4 :: ts4)).length = some 0 := by
              rw [List.length_map]
              unfold seqIndex?
              simp
            have xk : (List.map (fun x => V.ref x.1) (y4 :: ts4))[0]? = some (.ref y4.1) := rfl
            try walk_at "go"
            generalize e5 : upd H4 (ad (.ln (x - 1) (lnS z.k x n f))) _ = H5
            obtain ⟨N5, F5, _⟩ := N4.lnP (its := ts.map fun x => x.2) (by rw [d1]; omega) (by rw [d1]; exact ll) e5 ⟨ts4, rfl, (List.cons.inj l2).2, fun g hg => l3 g (List.mem_cons_of_mem _ hg)⟩
            rw [eh, ed]
            try walk_at "go"
            have tk5 := F5.tk N4
            have F5' : Fr st.k ad ad H4 H5 := by rw [d1, zk] at F5; exact F5
            exact ⟨F24.trans F5', N5, tk5 _ _ p4⟩
    · rintro σ H2 ⟨v4, v5, rfl, F2, N2, p2⟩
      exact q H2 F2 N2
/-! SPLIT -/
def spWaiting (K : PySem.W.Frag) (C : Addr) : Sp := fun vs H Q _ => ∃ (ad : Nm → Addr) (st : NS) (j l : Nat), vs = [.ref (ad .me), .int (j : Nat), .int (l : Nat)] ∧ NetAt C H ad st ∧ st.k ≤ 4 ∧ j ≤ st.k ∧ l < 2 ^ st.k ∧ ∀ a H' (ts : List (Addr × Itm)), Same H H' → H' a = some (.tup (ts.map fun x => V.ref x.1)) → ts.map (fun x => x.2) = st.rows j l → (∀ x ∈ ts, ItAt H' x.1 x.2) → Q (.ref a) H'
theorem k_Net__waiting (D : DfM K (cAt mg "Net") "waiting" "Net.waiting" s_Net__waiting ["self", "level", "line"]) (D_is_within : Dn P w K mg base 2 "is_within" ["thing", "least", "most"] spIsWithin) : DnM P w K mg base (cAt mg "Net") 5 "waiting" ["self", "level", "line"] (spWaiting K (cAt mg "Net")) := by
  refine D.ok fun f fd F => okG0 F sc_Net__waiting (fun vs H Q E h => ?_) (fun cdv A outer s H vs Q E hr h => ⟨_, (pss_cons (ps_set (i := 3) sc_Net__waiting.nd rfl (Or.inl rfl) (kk (K := K) (F := fun K => tFld K _ _) (P := PE _ _) (pe_fld (pv 0) rfl)))
    (pss_cons (ps_if (PW.pt (pw_or (pt_not (pt_truth (pe_cD D_is_within (hr.less (by decide)) rfl (pa_cons (pv 1) (pa_cons pe_int (pa_cons (pv 3) pa_nil)))) (by intro _; rfl))) (pw_or1 (pt_not (pt_truth (pe_cD D_is_within (hr.less (by decide)) rfl (pa_cons (pv 2) (pa_cons pe_int (pa_cons (pe_op op_sub (pe_op op_shlW pe_int (pv 3)) pe_int) pa_nil)))) (by intro _; rfl))))))
      (pss_one ps_never)
      pss_nil)
    (pss_one (ps_ret (pe_callTy (tupOfK (K := K)) (by rfl) B.tuple_ (by decide +kernel) (pa_cons (pe_ix (kk (K := K) (F := rIxL) (P := IxR _) ix_list) (pe_ix (kk (K := K) (F := rIxL) (P := IxR _) ix_list) (kk (K := K) (F := fun K => tFld K _ _) (P := PE _ _) (pe_fld (pv 0) rfl)) (pv 1) (fun _ _ => rfl)) (pv 2) (fun _ _ => rfl)) pa_nil)))))), ?_⟩)
  · obtain ⟨ad, st, j, l, rfl, _⟩ := h; rfl
  · obtain ⟨ad, st, j, l, rfl, N, hk, hj, hl, q⟩ := h
    obtain ⟨cl0, n1, n2, n3, n4, n5, n6, n7, n8, n9, n10, n11⟩ := netNo B
    obtain ⟨dx, me⟩ := N.top
    have sh : CShl 1 (st.k : Int) := shl_ok (by omega)
    have sk : (1 : Int) * 2 ^ ((st.k : Nat) : Int).toNat = ((2 ^ st.k : Nat) : Int) := by rw [Int.one_mul, Int.toNat_natCast]; push_cast; rfl
    have e1 : ((l : Nat) : Int) ≤ 1 * 2 ^ ((st.k : Nat) : Int).toNat - 1 := by rw [sk]; omega
    have rw0 := N.rw_
    have lv0 := N.lv_ hj
    obtain ⟨ts, ln1, ln2, ln3⟩ := N.ln_ hj hl
    have x1 : atI ((List.range (st.k + 1)).map fun j => V.ref (ad (.lv j))) (j : Int) = some (.ref (ad (.lv j))) := at_of (j := j) rfl (by rw [List.getElem?_map, List.getElem?_range (by omega)] <;> rfl)
    have x2 : atI ((List.range (2 ^ st.k)).map fun l => V.ref (ad (.ln j l))) (l : Int) = some (.ref (ad (.ln j l))) := at_of (j := l) rfl (by rw [List.getElem?_map, List.getElem?_range hl] <;> rfl)
    try walk_at "go"
    exact fun a ha => q a _ ts (same_new ha _) upd_same ln2 fun z hz => (ln3 z hz).tk (TK.same (same_new ha _))
/-! SPLIT -/
/-! ### the plain law of nets in time: what every step keeps -/
def sm : Nat → (Nat → Nat) → Nat
  | 0, _ => 0
  | n + 1, f => sm n f + f n
omit B in
theorem sm_congr {f g : Nat → Nat} : ∀ {n : Nat}, (∀ j, j < n → g j = f j) → sm n g = sm n f
  | 0, _ => rfl
  | n + 1, e => by
    show sm n g + g n = sm n f + f n
    rw [sm_congr (n := n) fun j h => e j (by omega), e n (by omega)]
omit B in
theorem sm_upd {f g : Nat → Nat} {i : Nat} : ∀ {n : Nat}, i < n → (∀ j, j ≠ i → g j = f j) → sm n g + f i = sm n f + g i
  | 0, h, _ => absurd h (Nat.not_lt_zero _)
  | n + 1, h, e => by
    show sm n g + g n + f i = sm n f + f n + g i
    by_cases c : i = n
    · subst c
      rw [sm_congr (n := i) fun j h => e j (by omega)]
      omega
    · have := sm_upd (n := n) (by omega) e
      rw [e n (fun z => c z.symm)]
      omega
omit B in
theorem sm_le {f : Nat → Nat} {i : Nat} : ∀ {n : Nat}, i < n → f i ≤ sm n f
  | 0, h => absurd h (Nat.not_lt_zero _)
  | n + 1, h => by
    show f i ≤ sm n f + f n
    by_cases c : i = n
    · subst c; omega
    · have := sm_le (f := f) (i := i) (n := n) (by omega)
      omega
omit B in
theorem sm_pos {f : Nat → Nat} : ∀ {n : Nat}, 0 < sm n f → ∃ i, i < n ∧ 0 < f i
  | 0, h => absurd h (Nat.not_lt_zero _)
  | n + 1, h => by
    have h : 0 < sm n f + f n := h
    by_cases c : 0 < f n
    · exact ⟨n, by omega, c⟩
    · obtain ⟨i, h1, h2⟩ := sm_pos (f := f) (n := n) (by omega)
      exact ⟨i, by omega, h2⟩
omit B in
theorem sm_zero {f : Nat → Nat} {n : Nat} (h : ∀ j, j < n → f j = 0) : sm n f = 0 := by
  cases e : sm n f with
  | zero => rfl
  | succ m =>
    obtain ⟨i, h1, h2⟩ := sm_pos (f := f) (n := n) (by omega)
    rw [h i h1] at h2
    exact absurd h2 (Nat.lt_irrefl _)
/-- a row's weight -/
def rs (g : Itm → Nat) : List Itm → Nat
  | [] => 0
  | x :: xs => g x + rs g xs
omit B in
theorem rs_app (g : Itm → Nat) : ∀ (L M : List Itm), rs g (L ++ M) = rs g L + rs g M
  | [], M => by rw [List.nil_append]; exact (Nat.zero_add _).symm
  | x :: L, M => by
    rw [List.cons_append]
    show g x + rs g (L ++ M) = g x + rs g L + rs g M
    rw [rs_app g L M]
    omega
omit B in
theorem rs_set (g : Itm → Nat) (y d : Itm) : ∀ (L : List Itm) (j : Nat), j < L.length → rs g (L.set j y) + g (L.getD j d) = rs g L + g y
  | [], _, h => absurd h (Nat.not_lt_zero _)
  | x :: L, 0, _ => by
    show g y + rs g L + g x = g x + rs g L + g y
    omega
  | x :: L, j + 1, h => by
    have := rs_set g y d L j (Nat.lt_of_succ_lt_succ h)
    show g x + rs g (L.set j y) + g (L.getD j d) = g x + rs g L + g y
    omega
omit B in
theorem rs_le (g : Itm → Nat) {it : Itm} : ∀ {L : List Itm}, it ∈ L → g it ≤ rs g L
  | [], h => absurd h List.not_mem_nil
  | x :: L, h => by
    show g it ≤ g x + rs g L
    rcases List.mem_cons.mp h with e | e
    · rw [e]; omega
    · have := rs_le g e; omega
omit B in
theorem rs_one : ∀ (L : List Itm), rs (fun _ => 1) L = L.length
  | [] => rfl
  | x :: L => by
    show 1 + rs (fun _ => 1) L = L.length + 1
    rw [rs_one L]; omega
omit B in
theorem rs_ge (g : Itm → Nat) : ∀ {L : List Itm}, (∀ it ∈ L, 1 ≤ g it) → L.length ≤ rs g L
  | [], _ => Nat.le_refl _
  | x :: L, h => by
    have h1 := h x List.mem_cons_self
    have h2 := rs_ge g (L := L) fun it hi => h it (List.mem_cons_of_mem _ hi)
    show L.length + 1 ≤ g x + rs g L
    omega
/-- the weight of what lies on the lines -/
def w2 (k : Nat) (f : Nat → Nat → Nat) : Nat := sm (k + 1) fun j => sm (2 ^ k) fun l => f j l
def wl (g : Itm → Nat) (k : Nat) (r : Nat → Nat → List Itm) : Nat := w2 k fun j l => rs g (r j l)
/-- one row anew -/
def rwU (r : Nat → Nat → List Itm) (a b : Nat) (L : List Itm) : Nat → Nat → List Itm := fun x y => if x = a ∧ y = b then L else r x y
omit B in
theorem rwU_at {r : Nat → Nat → List Itm} {a b : Nat} {L : List Itm} : rwU r a b L a b = L := if_pos ⟨rfl, rfl⟩
omit B in
theorem rwU_ne {r : Nat → Nat → List Itm} {a b x y : Nat} {L : List Itm} (h : ¬(x = a ∧ y = b)) : rwU r a b L x y = r x y := if_neg h
omit B in
theorem w2_upd {k a b : Nat} {f g : Nat → Nat → Nat} (ha : a ≤ k) (hb : b < 2 ^ k) (e : ∀ x y, ¬(x = a ∧ y = b) → g x y = f x y) : w2 k g + f a b = w2 k f + g a b := by
  have h1 : w2 k g + sm (2 ^ k) (fun l => f a l) = w2 k f + sm (2 ^ k) (fun l => g a l) := sm_upd (f := fun j => sm (2 ^ k) fun l => f j l) (g := fun j => sm (2 ^ k) fun l => g j l) (i := a) (by omega) fun j hj => sm_congr fun l _ => e j l fun z => hj z.1
  have h2 : sm (2 ^ k) (fun l => g a l) + f a b = sm (2 ^ k) (fun l => f a l) + g a b := sm_upd (f := fun l => f a l) (g := fun l => g a l) (i := b) hb fun l hl => e a l fun z => hl z.2
  omega
omit B in
theorem wl_upd (g : Itm → Nat) {k a b : Nat} {r : Nat → Nat → List Itm} (L : List Itm) (ha : a ≤ k) (hb : b < 2 ^ k) : wl g k (rwU r a b L) + rs g (r a b) = wl g k r + rs g L := by
  have h : wl g k (rwU r a b L) + rs g (r a b) = wl g k r + rs g (rwU r a b L a b) := w2_upd (f := fun j l => rs g (r j l)) (g := fun j l => rs g (rwU r a b L j l)) ha hb fun x y n => congrArg (rs g) (rwU_ne n)
  rw [rwU_at] at h
  exact h
omit B in
theorem wl_le (g : Itm → Nat) {k a b : Nat} {r : Nat → Nat → List Itm} (ha : a ≤ k) (hb : b < 2 ^ k) : rs g (r a b) ≤ wl g k r := Nat.le_trans (sm_le (f := fun l => rs g (r a l)) hb) (sm_le (f := fun j => sm (2 ^ k) fun l => rs g (r j l)) (by omega))
omit B in
theorem wl_pos {g : Itm → Nat} {k : Nat} {r : Nat → Nat → List Itm} (h : 0 < wl g k r) : ∃ a b, a ≤ k ∧ b < 2 ^ k ∧ r a b ≠ [] := by
  obtain ⟨a, ha, h1⟩ := sm_pos h
  obtain ⟨b, hb, h2⟩ := sm_pos h1
  have h2 : 0 < rs g (r a b) := h2
  exact ⟨a, b, by omega, hb, fun z => by rw [z] at h2; exact Nat.lt_irrefl _ h2⟩
omit B in
theorem wl_zero {g : Itm → Nat} {k : Nat} {r : Nat → Nat → List Itm} (h : ∀ a b, r a b = []) : wl g k r = 0 := sm_zero fun a _ => sm_zero fun b _ => by show rs g (r a b) = 0; rw [h]; rfl
omit B in
/-- what a switch's in-line does -/
theorem hand1_cases (st : NS) (s n f : Nat) : hand1 st s n f = st ∨ ∃ it its, st.rows (s - 1) (lnS st.k s n f) = it :: its ∧ (((st.rows s (outS st.k s n it.box)).length < st.room ∧ hand1 st s n f = { st with rows := rwU (rwU st.rows s (outS st.k s n it.box) (st.rows s (outS st.k s n it.box) ++ [it])) (s - 1) (lnS st.k s n f) its }) ∨ ∃ j, (alkS it.box (st.rows s (outS st.k s n it.box))).getLast? = some j ∧ joinsS st s n < st.kept ∧ hand1 st s n f = { st with rows := rwU (rwU st.rows s (outS st.k s n it.box) ((st.rows s (outS st.k s n it.box)).set j ⟨it.box, beh ((st.rows s (outS st.k s n it.box)).getD j ⟨0, ⟨0, none, none⟩, []⟩).d it.d, ((st.rows s (outS st.k s n it.box)).getD j ⟨0, ⟨0, none, none⟩, []⟩).ns ++ it.ns⟩)) (s - 1) (lnS st.k s n f) its, prs := st.prs ++ [(s, n, it.ns.headD 0)] }) := by
  cases e : st.rows (s - 1) (lnS st.k s n f) with
  | nil => exact .inl (by unfold hand1; dsimp only; rw [e])
  | cons it its =>
    have hh : hand1 st s n f = if (doesS st s n it).2 = true then { (doesS st s n it).1 with rows := rwU (doesS st s n it).1.rows (s - 1) (lnS st.k s n f) its } else (doesS st s n it).1 := by
      unfold hand1
      dsimp only
      rw [e]
      rfl
    have app : doesS st s n it = (if (st.rows s (outS st.k s n it.box)).length < st.room then ({ st with rows := rwU st.rows s (outS st.k s n it.box) (st.rows s (outS st.k s n it.box) ++ [it]) }, true) else (st, false)) → (hand1 st s n f = st ∨ ((st.rows s (outS st.k s n it.box)).length < st.room ∧ hand1 st s n f = { st with rows := rwU (rwU st.rows s (outS st.k s n it.box) (st.rows s (outS st.k s n it.box) ++ [it])) (s - 1) (lnS st.k s n f) its })) := fun d => by
      by_cases c2 : (st.rows s (outS st.k s n it.box)).length < st.room
      · rw [if_pos c2] at d
        rw [hh, d, if_pos rfl]
        exact .inr ⟨c2, rfl⟩
      · rw [if_neg c2] at d
        rw [hh, d]
        exact .inl rfl
    cases ea : (alkS it.box (st.rows s (outS st.k s n it.box))).getLast? with
    | none =>
      rcases app (by unfold doesS; dsimp only; rw [ea] <;> rfl) with g | g
      · exact .inl g
      · exact .inr ⟨it, its, rfl, .inl g⟩
    | some j =>
      by_cases c : joinsS st s n < st.kept
      · refine .inr ⟨it, its, rfl, .inr ⟨j, ea, c, ?_⟩⟩
        have d : doesS st s n it = ({ st with rows := rwU st.rows s (outS st.k s n it.box) ((st.rows s (outS st.k s n it.box)).set j ⟨it.box, beh ((st.rows s (outS st.k s n it.box)).getD j ⟨0, ⟨0, none, none⟩, []⟩).d it.d, ((st.rows s (outS st.k s n it.box)).getD j ⟨0, ⟨0, none, none⟩, []⟩).ns ++ it.ns⟩), prs := st.prs ++ [(s, n, it.ns.headD 0)] }, true) := by
          unfold doesS
          dsimp only
          rw [ea]
          exact if_pos c
        rw [hh, d, if_pos rfl]
      · rcases app (by
          unfold doesS
          dsimp only
          rw [ea]
          exact if_neg c) with g | g
        · exact .inl g
        · exact .inr ⟨it, its, rfl, .inl g⟩
omit B in
theorem alkS_get {b j : Nat} {L : List Itm} (h : (alkS b L).getLast? = some j) : j < L.length ∧ (L.getD j ⟨0, ⟨0, none, none⟩, []⟩).box = b := by
  have h2 := List.mem_of_getLast? h
  obtain ⟨h3, h4⟩ := List.mem_filter.mp h2
  exact ⟨List.mem_range.mp h3, of_decide_eq_true h4⟩
/-- a net's asks: each is once on a line or in the log -/
structure Iv (st : NS) : Prop where
  wf : Wf st
  out : ∀ j l, ¬(j ≤ st.k ∧ l < 2 ^ st.k) → st.rows j l = []
  its : ∀ j l, ∀ it ∈ st.rows j l, it.box < st.am.length ∧ it.ns ≠ []
  cnt : ∀ m, wl (fun it => it.ns.count m) st.k st.rows + st.ord.count m = if m < st.asked.length then 1 else 0
  tot : wl (fun it => it.ns.length) st.k st.rows + st.ord.length = st.asked.length
  num : wl (fun _ => 1) st.k st.rows + st.prs.length ≤ st.asked.length
  thr : ∀ p ∈ st.prs, p.2.2 < st.asked.length ∧ 1 ≤ p.1
  ie : ∀ n, n < st.asked.length → (n ∈ st.ord → ∃ e v, st.ends.getD n none = some e ∧ e ≤ st.now ∧ st.ans.getD n none = some v) ∧ (n ∉ st.ord → st.ends.getD n none = none ∧ st.ans.getD n none = none)
omit B in
theorem Iv.row {st : NS} (h : Iv st) {j l : Nat} {it : Itm} (hi : it ∈ st.rows j l) : j ≤ st.k ∧ l < 2 ^ st.k := by
  by_cases c : j ≤ st.k ∧ l < 2 ^ st.k
  · exact c
  · rw [h.out j l c] at hi
    exact absurd hi List.not_mem_nil
omit B in
theorem Iv.nlen {st : NS} (h : Iv st) {j l : Nat} {it : Itm} (hi : it ∈ st.rows j l) : st.ord.length + it.ns.length ≤ st.asked.length := by
  obtain ⟨h1, h2⟩ := h.row hi
  have a := wl_le (fun it => it.ns.length) (k := st.k) (r := st.rows) h1 h2
  have b : it.ns.length ≤ rs (fun it => it.ns.length) (st.rows j l) := rs_le (fun it => it.ns.length) hi
  have c := h.tot
  omega
omit B in
theorem Iv.nlt {st : NS} (h : Iv st) {j l : Nat} {it : Itm} (hi : it ∈ st.rows j l) {m : Nat} (hm : m ∈ it.ns) : m < st.asked.length ∧ m ∉ st.ord := by
  obtain ⟨h1, h2⟩ := h.row hi
  have a := wl_le (fun it => it.ns.count m) (k := st.k) (r := st.rows) h1 h2
  have b : it.ns.count m ≤ rs (fun it => it.ns.count m) (st.rows j l) := rs_le (fun it => it.ns.count m) hi
  have d := List.count_pos_iff.mpr hm
  have c := h.cnt m
  by_cases q : m < st.asked.length
  · refine ⟨q, fun z => ?_⟩
    have := List.count_pos_iff.mpr z
    rw [if_pos q] at c
    omega
  · rw [if_neg q] at c
    omega
omit B in
theorem Iv.wl_ {st : NS} (h : Iv st) : Wl st := by
  have n40 := h.wf.n40
  refine ⟨h.wf, by have := h.num; omega, fun j l => ?_, fun j l it hi => ⟨?_, (h.its j l it hi).2, by have := h.nlen hi; omega⟩⟩
  · by_cases c : j ≤ st.k ∧ l < 2 ^ st.k
    · have a := wl_le (fun _ => 1) (k := st.k) (r := st.rows) c.1 c.2
      rw [rs_one] at a
      have := h.num
      omega
    · rw [h.out j l c]
      exact Nat.zero_le _
  · have := (h.its j l it hi).1
    have := h.wf.am16
    omega
omit B in
theorem Iv.now_ {st : NS} (h : Iv st) : Iv { st with now := st.now + 1 } :=
  ⟨⟨h.wf.1, h.wf.2, h.wf.3, h.wf.4, h.wf.5, h.wf.6, h.wf.7, h.wf.8, h.wf.9, h.wf.10⟩, h.out, h.its, h.cnt, h.tot, h.num, h.thr, fun n hn => ⟨fun z => by
    obtain ⟨e, v, a, b, c⟩ := (h.ie n hn).1 z
    exact ⟨e, v, a, Nat.le_succ_of_le b, c⟩, (h.ie n hn).2⟩⟩
omit B in
theorem Iv.filt {st : NS} (h : Iv st) (p : Nat × Nat × Nat → Bool) : Iv { st with prs := st.prs.filter p } :=
  ⟨⟨h.wf.1, h.wf.2, h.wf.3, h.wf.4, h.wf.5, h.wf.6, h.wf.7, h.wf.8, h.wf.9, h.wf.10⟩, h.out, h.its, h.cnt, h.tot, Nat.le_trans (Nat.add_le_add_left (List.length_filter_le _ _) _) h.num, fun x hx => h.thr x (List.mem_filter.mp hx).1, h.ie⟩
omit B in
theorem rwU2_out {st : NS} (h : ∀ j l, ¬(j ≤ st.k ∧ l < 2 ^ st.k) → st.rows j l = []) {a b c d : Nat} {L M : List Itm} (h1 : a ≤ st.k ∧ b < 2 ^ st.k) (h2 : c ≤ st.k ∧ d < 2 ^ st.k) : ∀ j l, ¬(j ≤ st.k ∧ l < 2 ^ st.k) → rwU (rwU st.rows a b L) c d M j l = [] := fun j l n => by
  rw [rwU_ne (fun z => n (by rw [z.1, z.2]; exact h2)), rwU_ne (fun z => n (by rw [z.1, z.2]; exact h1))]
  exact h j l n
omit B in
/-- one item goes on: weights stay -/
theorem wl_move (g : Itm → Nat) {k s l o : Nat} {r : Nat → Nat → List Itm} {it : Itm} {its : List Itm} (h1 : 1 ≤ s) (h2 : s ≤ k) (hl : l < 2 ^ k) (ho : o < 2 ^ k) (e : r (s - 1) l = it :: its) : wl g k (rwU (rwU r s o (r s o ++ [it])) (s - 1) l its) = wl g k r := by
  have a := wl_upd g (r := r) (r s o ++ [it]) h2 ho
  have b := wl_upd g (r := rwU r s o (r s o ++ [it])) its (a := s - 1) (b := l) (k := k) (by omega) hl
  rw [rwU_ne (fun z => by omega), e] at b
  rw [rs_app] at a
  have c : rs g (it :: its) = g it + rs g its := rfl
  have d : rs g [it] = g it := rfl
  omega
omit B in
/-- one item is joined with one -/
theorem wl_join (g : Itm → Nat) {k s l o j : Nat} {r : Nat → Nat → List Itm} {it nw : Itm} {its : List Itm} (h1 : 1 ≤ s) (h2 : s ≤ k) (hl : l < 2 ^ k) (ho : o < 2 ^ k) (e : r (s - 1) l = it :: its) (hj : j < (r s o).length) : wl g k (rwU (rwU r s o ((r s o).set j nw)) (s - 1) l its) + g it + g ((r s o).getD j ⟨0, ⟨0, none, none⟩, []⟩) = wl g k r + g nw := by
  have a := wl_upd g (r := r) ((r s o).set j nw) h2 ho
  have b := wl_upd g (r := rwU r s o ((r s o).set j nw)) its (a := s - 1) (b := l) (k := k) (by omega) hl
  rw [rwU_ne (fun z => by omega), e] at b
  have c : rs g (it :: its) = g it + rs g its := rfl
  have d := rs_set g nw ⟨0, ⟨0, none, none⟩, []⟩ (r s o) j hj
  omega
omit B in
theorem Iv.hand1 {st : NS} {s n f : Nat} (h : Iv st) (h1 : 1 ≤ s) (h2 : s ≤ st.k) (hn : n < 2 ^ st.k / 2) (hf : f < 2) : Iv (hand1 st s n f) := by
  have hl := lnS_lt h.wf.k4 h1 h2 hn hf
  rcases hand1_cases st s n f with e | ⟨it, its, e, ⟨_, e2⟩ | ⟨j, ej, _, e2⟩⟩
  · rw [e]; exact h
  · rw [e2]
    have ho := outS_lt (b := it.box) h.wf.k4 h1 h2 hn
    have W := fun g => wl_move g h1 h2 hl ho e
    have hit := h.its (s - 1) (lnS st.k s n f) it (by rw [e]; exact List.mem_cons_self)
    refine ⟨⟨h.wf.1, h.wf.2, h.wf.3, h.wf.4, h.wf.5, h.wf.6, h.wf.7, h.wf.8, h.wf.9, h.wf.10⟩, rwU2_out h.out ⟨h2, ho⟩ ⟨by omega, hl⟩, fun a b x hx => ?_, fun m => by dsimp only; rw [W]; exact h.cnt m, by dsimp only; rw [W]; exact h.tot, by dsimp only; rw [W]; exact h.num, h.thr, h.ie⟩
    dsimp only at hx
    by_cases c1 : a = s - 1 ∧ b = lnS st.k s n f
    · obtain ⟨rfl, rfl⟩ := c1
      rw [rwU_at] at hx
      exact h.its _ _ x (by rw [e]; exact List.mem_cons_of_mem _ hx)
    · rw [rwU_ne c1] at hx
      by_cases c2 : a = s ∧ b = outS st.k s n it.box
      · obtain ⟨rfl, rfl⟩ := c2
        rw [rwU_at] at hx
        rcases List.mem_append.mp hx with g | g
        · exact h.its _ _ x g
        · rw [List.mem_singleton.mp g]
          exact hit
      · rw [rwU_ne c2] at hx
        exact h.its _ _ x hx
  · rw [e2]
    have ho := outS_lt (b := it.box) h.wf.k4 h1 h2 hn
    obtain ⟨jl, jb⟩ := alkS_get ej
    have W := fun g nw => wl_join g (nw := nw) h1 h2 hl ho e jl
    have itm : it ∈ st.rows (s - 1) (lnS st.k s n f) := by rw [e]; exact List.mem_cons_self
    have hit := h.its _ _ it itm
    generalize eo : (st.rows s (outS st.k s n it.box)).getD j ⟨0, ⟨0, none, none⟩, []⟩ = o at W jb
    have ho2 := h.its s (outS st.k s n it.box) o (by rw [← eo, List.getD_eq_getElem?_getD, List.getElem?_eq_getElem jl]; exact List.getElem_mem jl)
    refine ⟨⟨h.wf.1, h.wf.2, h.wf.3, h.wf.4, h.wf.5, h.wf.6, h.wf.7, h.wf.8, h.wf.9, h.wf.10⟩, rwU2_out h.out ⟨h2, ho⟩ ⟨by omega, hl⟩, fun a b x hx => ?_, fun m => ?_, ?_, ?_, fun p hp => ?_, h.ie⟩
    · dsimp only at hx
      by_cases c1 : a = s - 1 ∧ b = lnS st.k s n f
      · obtain ⟨rfl, rfl⟩ := c1
        rw [rwU_at] at hx
        exact h.its _ _ x (by rw [e]; exact List.mem_cons_of_mem _ hx)
      · rw [rwU_ne c1] at hx
        by_cases c2 : a = s ∧ b = outS st.k s n it.box
        · obtain ⟨rfl, rfl⟩ := c2
          rw [rwU_at] at hx
          rcases List.mem_or_eq_of_mem_set hx with g | g
          · exact h.its _ _ x g
          · rw [g]
            exact ⟨hit.1, fun z => ho2.2 (List.append_eq_nil_iff.mp z).1⟩
        · rw [rwU_ne c2] at hx
          exact h.its _ _ x hx
    · have w := W (fun it => it.ns.count m) ⟨it.box, beh o.d it.d, o.ns ++ it.ns⟩
      dsimp only at w ⊢
      rw [List.count_append] at w
      have := h.cnt m
      omega
    · have w := W (fun it => it.ns.length) ⟨it.box, beh o.d it.d, o.ns ++ it.ns⟩
      dsimp only at w ⊢
      rw [List.length_append] at w
      have := h.tot
      omega
    · have w := W (fun _ => 1) ⟨it.box, beh o.d it.d, o.ns ++ it.ns⟩
      dsimp only at w ⊢
      rw [List.length_append, List.length_singleton]
      have := h.num
      omega
    · rcases List.mem_append.mp hp with g | g
      · exact h.thr p g
      · rw [List.mem_singleton.mp g]
        refine ⟨(h.nlt itm ?_).1, h1⟩
        cases hh : it.ns with
        | nil => exact absurd hh hit.2
        | cons a b => exact List.mem_cons_self
omit B in
theorem Iv.hand {st : NS} {s n : Nat} (h : Iv st) (h1 : 1 ≤ s) (h2 : s ≤ st.k) (hn : n < 2 ^ st.k / 2) : Iv (handS st s n) := by
  have a := h.hand1 (f := st.now % 2) h1 h2 hn (Nat.mod_lt _ (by decide))
  have e := (hand1_k st s n (st.now % 2)).1
  exact a.hand1 h1 (by rw [e]; exact h2) (by rw [e]; exact hn) (by omega)
omit B in
/-- an ask is answered: what the rest of the row still waits for -/
theorem fold_ie : ∀ (ns : List Nat) (st : NS), st.ans.length = st.asked.length → st.ends.length = st.asked.length → (∀ n, n < st.asked.length → (n ∈ st.ord → ∃ e v, st.ends.getD n none = some e ∧ e ≤ st.now ∧ st.ans.getD n none = some v) ∧ (n ∉ st.ord → st.ends.getD n none = none ∧ st.ans.getD n none = none)) → (∀ n, n < st.asked.length → (n ∈ (ns.foldl endS st).ord → ∃ e v, (ns.foldl endS st).ends.getD n none = some e ∧ e ≤ (ns.foldl endS st).now ∧ (ns.foldl endS st).ans.getD n none = some v) ∧ (n ∉ (ns.foldl endS st).ord → (ns.foldl endS st).ends.getD n none = none ∧ (ns.foldl endS st).ans.getD n none = none))
  | [], st, _, _, h => h
  | m :: ns, st, l1, l2, h => by
    rw [List.foldl_cons]
    refine fold_ie ns (endS st m) (by simpa [endS] using l1) (by simpa [endS] using l2) fun n hn => ?_
    have hn : n < st.asked.length := hn
    have eo : (endS st m).ord = st.ord ++ [m] := rfl
    have ee : (endS st m).ends = st.ends.set m (some st.now) := rfl
    have ea : ∃ v, (endS st m).ans = st.ans.set m (some v) := ⟨_, rfl⟩
    obtain ⟨v, ea⟩ := ea
    have en : (endS st m).now = st.now := rfl
    rw [eo, ee, ea, en]
    by_cases c : m = n
    · subst c
      refine ⟨fun _ => ⟨st.now, v, ?_, Nat.le_refl _, ?_⟩, fun z => absurd (List.mem_append_right _ (List.mem_singleton.mpr rfl)) z⟩
      · rw [List.getD_eq_getElem?_getD, List.getElem?_set_self (by rw [l2]; exact hn)]; rfl
      · rw [List.getD_eq_getElem?_getD, List.getElem?_set_self (by rw [l1]; exact hn)]; rfl
    · rw [List.getD_eq_getElem?_getD, List.getD_eq_getElem?_getD, List.getElem?_set_ne c, List.getElem?_set_ne c, ← List.getD_eq_getElem?_getD, ← List.getD_eq_getElem?_getD]
      refine ⟨fun z => (h n hn).1 ?_, fun z => (h n hn).2 fun y => z (List.mem_append_left _ y)⟩
      rcases List.mem_append.mp z with g | g
      · exact g
      · exact absurd (List.mem_singleton.mp g).symm c
omit B in
theorem fold_rows : ∀ (ns : List Nat) (st : NS), (ns.foldl endS st).rows = st.rows ∧ (ns.foldl endS st).prs = st.prs ∧ (ns.foldl endS st).now = st.now ∧ (ns.foldl endS st).am.length = st.am.length ∧ (ns.foldl endS st).room = st.room ∧ (ns.foldl endS st).kept = st.kept
  | [], st => ⟨rfl, rfl, rfl, rfl, rfl, rfl⟩
  | n :: ns, st => by
    obtain ⟨a, b, c, d, e, f⟩ := fold_rows ns (endS st n)
    rw [List.foldl_cons]
    exact ⟨a, b, c, d.trans (by simp [endS]), e, f⟩
omit B in
theorem Iv.take {st : NS} {l : Nat} (h : Iv st) (hl : l < 2 ^ st.k) : Iv (takeS st l) := by
  unfold takeS
  split
  · exact h
  · next it its e =>
    have itm : it ∈ st.rows st.k l := by rw [e]; exact List.mem_cons_self
    have w1 := h.nlen itm
    have n40 := h.wf.n40
    obtain ⟨s0, es0⟩ : ∃ s0 : NS, s0 = { st with rows := fun j m => if j = st.k ∧ m = l then its else st.rows j m } := ⟨_, rfl⟩
    have er : s0.rows = rwU st.rows st.k l its := by rw [es0]; rfl
    have e1 : s0.k = st.k ∧ s0.asked = st.asked ∧ s0.ord = st.ord ∧ s0.prs = st.prs ∧ s0.now = st.now ∧ s0.am = st.am ∧ s0.ends = st.ends ∧ s0.ans = st.ans := by rw [es0]; exact ⟨rfl, rfl, rfl, rfl, rfl, rfl, rfl, rfl⟩
    have w0 : Wf s0 := by rw [es0]; exact ⟨h.wf.1, h.wf.2, h.wf.3, h.wf.4, h.wf.5, h.wf.6, h.wf.7, h.wf.8, h.wf.9, h.wf.10⟩
    rw [← es0]
    obtain ⟨k1, k2, k3, k4, k5, k6, k7, k8⟩ := e1
    obtain ⟨f1, f2, f3⟩ := fold_end it.ns s0
    obtain ⟨g1, g2, g3, g4, _, _⟩ := fold_rows it.ns s0
    have W := fun g => wl_upd g (r := st.rows) its (Nat.le_refl st.k) hl
    rw [e] at W
    refine ⟨w0.fold it.ns (by rw [k3]; omega), ?_, ?_, fun m => ?_, ?_, ?_, ?_, ?_⟩
    · rw [f1, g1, k1, er]
      intro a b n
      rw [rwU_ne (fun z => n (by rw [z.1, z.2]; exact ⟨Nat.le_refl _, hl⟩))]
      exact h.out a b n
    · rw [g1, g4, er, k6]
      intro a b x hx
      by_cases c : a = st.k ∧ b = l
      · obtain ⟨rfl, rfl⟩ := c
        rw [rwU_at] at hx
        exact h.its _ _ x (by rw [e]; exact List.mem_cons_of_mem _ hx)
      · rw [rwU_ne c] at hx
        exact h.its _ _ x hx
    · rw [f1, f2, f3, g1, er, k1, k2, k3, List.count_append]
      have w := W fun it => it.ns.count m
      have c : rs (fun it => it.ns.count m) (it :: its) = it.ns.count m + rs (fun it => it.ns.count m) its := rfl
      have := h.cnt m
      omega
    · rw [f1, f2, f3, g1, er, k1, k2, k3, List.length_append]
      have w := W fun it => it.ns.length
      have c : rs (fun it => it.ns.length) (it :: its) = it.ns.length + rs (fun it => it.ns.length) its := rfl
      have := h.tot
      omega
    · rw [f1, f2, g1, g2, er, k1, k2, k4]
      have w := W fun _ => 1
      have c : rs (fun _ => 1) (it :: its) = 1 + rs (fun _ => 1) its := rfl
      have := h.num
      omega
    · rw [f2, g2, k2, k4]
      exact h.thr
    · rw [f2]
      refine fold_ie it.ns s0 (by rw [k8, k2]; exact h.wf.la) (by rw [k7, k2]; exact h.wf.le) ?_
      rw [k2, k3, k5, k7, k8]
      exact h.ie
omit B in
theorem takeS_k (st : NS) (l : Nat) : (takeS st l).k = st.k := by
  unfold takeS
  split
  · rfl
  · exact (fold_end _ _).1
omit B in
theorem handS_k (st : NS) (s n : Nat) : (handS st s n).k = st.k := by
  unfold handS
  rw [(hand1_k ..).1, (hand1_k ..).1]
/-- a beat -/
def go0 (st : NS) : NS :=
  let s1 := { st with now := st.now + 1 }
  { s1 with prs := s1.prs.filter fun p => !fgtS s1 p }
def goT (ls : List (Nat × Nat)) (st : NS) (l : Nat) : NS := if (0, l) ∈ ls then st else takeS st l
def goH (ls : List (Nat × Nat)) (s : Nat) (st : NS) (n : Nat) : NS := if (s, n) ∈ ls then st else handS st s n
def goR (ls : List (Nat × Nat)) (st : NS) (i : Nat) : NS := (List.range (2 ^ st.k / 2)).foldl (goH ls (st.k - i)) st
def goS (st : NS) (ls : List (Nat × Nat)) : NS := (List.range st.k).foldl (goR ls) ((List.range (2 ^ st.k)).foldl (goT ls) (go0 st))
omit B in
theorem goT_k (ls : List (Nat × Nat)) (st : NS) (l : Nat) : (goT ls st l).k = st.k := by
  unfold goT
  split
  · rfl
  · exact takeS_k ..
omit B in
theorem goH_k (ls : List (Nat × Nat)) (s : Nat) (st : NS) (n : Nat) : (goH ls s st n).k = st.k := by
  unfold goH
  split
  · rfl
  · exact handS_k ..
omit B in
theorem foldl_k {α : Type} (f : NS → α → NS) (h : ∀ s a, (f s a).k = s.k) : ∀ (xs : List α) (st : NS), (xs.foldl f st).k = st.k
  | [], _ => rfl
  | x :: xs, st => (foldl_k f h xs (f st x)).trans (h st x)
omit B in
theorem goR_k (ls : List (Nat × Nat)) (st : NS) (i : Nat) : (goR ls st i).k = st.k := foldl_k _ (goH_k ls _) _ _
omit B in
theorem foldl_iv {α : Type} (f : NS → α → NS) (P : NS → Prop) : ∀ (xs : List α) (st : NS), P st → (∀ s a, a ∈ xs → P s → P (f s a)) → P (xs.foldl f st)
  | [], _, h, _ => h
  | x :: xs, st, h, a => foldl_iv f P xs (f st x) (a st x List.mem_cons_self h) fun s y hy => a s y (List.mem_cons_of_mem _ hy)
omit B in
theorem Iv.goT {ls : List (Nat × Nat)} {st : NS} {l : Nat} (h : Iv st) (hl : l < 2 ^ st.k) : Iv (goT ls st l) := by
  unfold Toy.goT
  split
  · exact h
  · exact h.take hl
omit B in
theorem Iv.goH {ls : List (Nat × Nat)} {st : NS} {s n : Nat} (h : Iv st) (h1 : 1 ≤ s) (h2 : s ≤ st.k) (hn : n < 2 ^ st.k / 2) : Iv (goH ls s st n) := by
  unfold Toy.goH
  split
  · exact h
  · exact h.hand h1 h2 hn
omit B in
theorem Iv.go0 {st : NS} (h : Iv st) : Iv (go0 st) := h.now_.filt _
omit B in
theorem Iv.goR {ls : List (Nat × Nat)} {st : NS} {i : Nat} (h : Iv st) (hi : i < st.k) : Iv (goR ls st i) :=
  (foldl_iv (Toy.goH ls (st.k - i)) (fun z => Iv z ∧ z.k = st.k) (List.range (2 ^ st.k / 2)) st ⟨h, rfl⟩ fun z n hn hz => ⟨hz.1.goH (by omega) (by rw [hz.2]; omega) (by rw [hz.2]; exact List.mem_range.mp hn), (goH_k ..).trans hz.2⟩).1
omit B in
theorem Iv.goTs {ls : List (Nat × Nat)} {st : NS} {i : Nat} (h : Iv st) (hi : i ≤ 2 ^ st.k) : Iv ((List.range i).foldl (Toy.goT ls) st) :=
  (foldl_iv (Toy.goT ls) (fun z => Iv z ∧ z.k = st.k) (List.range i) st ⟨h, rfl⟩ fun z n hn hz => ⟨hz.1.goT (by rw [hz.2]; have := List.mem_range.mp hn; omega), (goT_k ..).trans hz.2⟩).1
omit B in
theorem Iv.goRs {ls : List (Nat × Nat)} {st : NS} {i : Nat} (h : Iv st) (hi : i ≤ st.k) : Iv ((List.range i).foldl (Toy.goR ls) st) :=
  (foldl_iv (Toy.goR ls) (fun z => Iv z ∧ z.k = st.k) (List.range i) st ⟨h, rfl⟩ fun z n hn hz => ⟨hz.1.goR (by rw [hz.2]; have := List.mem_range.mp hn; omega), (goR_k ..).trans hz.2⟩).1
omit B in
theorem goTs_k (ls : List (Nat × Nat)) (xs : List Nat) (st : NS) : (xs.foldl (goT ls) st).k = st.k := foldl_k _ (goT_k ls) _ _
omit B in
theorem goRs_k (ls : List (Nat × Nat)) (xs : List Nat) (st : NS) : (xs.foldl (goR ls) st).k = st.k := foldl_k _ (goR_k ls) _ _
omit B in
theorem goS_k (st : NS) (ls : List (Nat × Nat)) : (goS st ls).k = st.k := by
  unfold goS
  rw [goRs_k, goTs_k]
  rfl
omit B in
theorem Iv.go {st : NS} (h : Iv st) (ls : List (Nat × Nat)) : Iv (goS st ls) := by
  have h0 := h.go0
  have h1 := h0.goTs (ls := ls) (i := 2 ^ st.k) (Nat.le_refl _)
  exact h1.goRs (Nat.le_of_eq (goTs_k ls (List.range (2 ^ st.k)) (Toy.go0 st)).symm)
/-- an ask is put -/
def putS (st : NS) (h b : Nat) (d : Dd) : NS := { st with asked := st.asked ++ [(b, d)], ans := st.ans ++ [none], ends := st.ends ++ [none], rows := rwU st.rows 0 h (st.rows 0 h ++ [⟨b, d, [st.asked.length]⟩]) }
omit B in
theorem Iv.put {st : NS} {h b : Nat} {d : Dd} (i : Iv st) (hn : st.asked.length < 40) (hh : h < 2 ^ st.k) (hb : b < st.am.length) (hd : d.Ok) : Iv (putS st h b d) := by
  have W := fun g => wl_upd g (r := st.rows) (st.rows 0 h ++ [⟨b, d, [st.asked.length]⟩]) (Nat.zero_le st.k) hh
  unfold putS
  refine ⟨⟨i.wf.1, i.wf.2, i.wf.3, i.wf.4, i.wf.5, ?_, ?_, ?_, ?_, i.wf.10⟩, ?_, ?_, fun m => ?_, ?_, ?_, fun p hp => ?_, fun n hn2 => ?_⟩
  · dsimp only; rw [List.length_append, List.length_singleton]; omega
  · dsimp only; rw [List.length_append, List.length_append, List.length_singleton, List.length_singleton, i.wf.la]
  · dsimp only; rw [List.length_append, List.length_append, List.length_singleton, List.length_singleton, i.wf.le]
  · intro x hx
    rcases List.mem_append.mp hx with g | g
    · exact i.wf.box x g
    · rw [List.mem_singleton.mp g]; exact ⟨hb, hd⟩
  · intro a c n
    dsimp only
    rw [rwU_ne (fun z => n (by rw [z.1, z.2]; exact ⟨Nat.zero_le _, hh⟩))]
    exact i.out a c n
  · intro a c x hx
    dsimp only at hx
    by_cases q : a = 0 ∧ c = h
    · obtain ⟨rfl, rfl⟩ := q
      rw [rwU_at] at hx
      rcases List.mem_append.mp hx with g | g
      · exact i.its _ _ x g
      · rw [List.mem_singleton.mp g]; exact ⟨hb, fun z => by cases z⟩
    · rw [rwU_ne q] at hx
      exact i.its _ _ x hx
  · have w := W fun it => it.ns.count m
    rw [rs_app] at w
    have c : rs (fun it => it.ns.count m) [⟨b, d, [st.asked.length]⟩] = [st.asked.length].count m := rfl
    have := i.cnt m
    dsimp only
    rw [List.length_append, List.length_singleton]
    by_cases q : m = st.asked.length
    · subst q
      rw [List.count_singleton_self] at c
      rw [if_neg (Nat.lt_irrefl _)] at this
      rw [if_pos (by omega)]
      omega
    · rw [List.count_eq_zero.mpr (fun z => q (List.mem_singleton.mp z))] at c
      by_cases q2 : m < st.asked.length
      · rw [if_pos q2] at this
        rw [if_pos (by omega)]
        omega
      · rw [if_neg q2] at this
        rw [if_neg (by omega)]
        omega
  · have w := W fun it => it.ns.length
    rw [rs_app] at w
    have c : rs (fun it => it.ns.length) [⟨b, d, [st.asked.length]⟩] = 1 := rfl
    have := i.tot
    dsimp only
    rw [List.length_append, List.length_singleton]
    omega
  · have w := W fun _ => 1
    rw [rs_app] at w
    have c : rs (fun _ => 1) [⟨b, d, [st.asked.length]⟩] = 1 := rfl
    have := i.num
    dsimp only
    rw [List.length_append, List.length_singleton]
    omega
  · have := i.thr p hp
    dsimp only
    rw [List.length_append, List.length_singleton]
    exact ⟨by omega, this.2⟩
  · dsimp only at hn2 ⊢
    rw [List.length_append, List.length_singleton] at hn2
    by_cases q : n < st.asked.length
    · have a := i.ie n q
      rw [List.getD_eq_getElem?_getD, List.getD_eq_getElem?_getD, List.getElem?_append_left (by rw [i.wf.le]; exact q), List.getElem?_append_left (by rw [i.wf.la]; exact q), ← List.getD_eq_getElem?_getD, ← List.getD_eq_getElem?_getD]
      exact a
    · have q : n = st.asked.length := by omega
      have c := i.cnt n
      rw [if_neg (by omega)] at c
      refine ⟨fun z => ?_, fun _ => ⟨?_, ?_⟩⟩
      · have := List.count_pos_iff.mpr z
        omega
      · rw [List.getD_eq_getElem?_getD, List.getElem?_append_right (by rw [i.wf.le]; omega), i.wf.le, q, Nat.sub_self]; rfl
      · rw [List.getD_eq_getElem?_getD, List.getElem?_append_right (by rw [i.wf.la]; omega), i.wf.la, q, Nat.sub_self]; rfl
/-- a new net -/
def netS (k : Nat) (am : List Int) (room kept : Nat) : NS := ⟨k, room, kept, am, fun _ _ => [], [], [], [], [], [], 0⟩
omit B in
theorem Iv.new {k : Nat} {am : List Int} {room kept : Nat} (hk : k ≤ 4) (h1 : 1 ≤ am.length) (h2 : am.length ≤ 16) (hr : 1 ≤ room ∧ room ≤ 6) (hkp : kept ≤ 6) : Iv (netS k am room kept) :=
  ⟨⟨hk, h1, h2, hr, hkp, Nat.zero_le _, rfl, rfl, fun x hx => absurd hx List.not_mem_nil, Nat.zero_le _⟩, fun _ _ _ => rfl, fun _ _ x hx => absurd hx List.not_mem_nil, fun m => by
    show wl _ k (fun _ _ => []) + 0 = if m < 0 then 1 else 0
    rw [wl_zero fun _ _ => rfl]
    rfl, by show wl _ k (fun _ _ => []) + 0 = 0; rw [wl_zero fun _ _ => rfl], by show wl _ k (fun _ _ => []) + 0 ≤ 0; rw [wl_zero fun _ _ => rfl]; exact Nat.le_refl _, fun p hp => absurd hp List.not_mem_nil, fun n hn => absurd hn (Nat.not_lt_zero _)⟩
/-! SPLIT -/
/-! ### one beat of a net -/
omit B in
theorem NetAt.nowP {C dx : Addr} {H H1 : Hp} {ad : Nm → Addr} {st : NS} {m : Nat} (N : NetAt C H ad st) (e : upd H (ad .me) (.ins C dx (nFs ad { st with now := m })) = H1) : NetAt C H1 ad { st with now := m } ∧ Fr st.k ad ad H H1 ∧ (∀ n o, n.ok st.k → n ≠ .me → H (ad n) = some o → H1 (ad n) = some o) := by
  refine ⟨N.put (n := .me) trivial (e ▸ But.upd) rfl (fun m hm z => ?_) ⟨dx, e ▸ upd_same⟩, Fr.but (n := .me) trivial (e ▸ But.upd) (e ▸ upd_same), fun m o h1 h2 h3 => (e ▸ But.upd : But (ad .me) H H1) _ _ (fun z => h2 (N.inj m .me h1 trivial z)) h3⟩
  cases m <;> first | exact z | exact absurd rfl hm
omit B in
theorem rgK {k : Nat} (h : k ≤ 4) : RgC (k : Int) 0 (-1) k := by
  obtain rfl | rfl | rfl | rfl | rfl : k = 0 ∨ k = 1 ∨ k = 2 ∨ k = 3 ∨ k = 4 := by omega
  all_goals exact ⟨by decide, by decide, by decide, by decide⟩
omit B in
/-- a new list of pairs -/
theorem NetAt.rep {C D dx : Addr} {H H1 : Hp} {ad : Nm → Addr} {st : NS} {ps : List (Nat × Nat × Nat)} (N : NetAt C H ad st) (hD : ∀ n, n.ok st.k → ad n ≠ D) (pa : PrsAt H D ps) (e : upd H (ad .me) (.ins C dx (nFs (fun m => if m = .pa then D else ad m) { st with prs := ps })) = H1) : NetAt C H1 (fun m => if m = .pa then D else ad m) { st with prs := ps } ∧ TK H H1 := by
  have b : But (ad .me) H H1 := e ▸ But.upd
  obtain ⟨dx0, me0⟩ := N.top
  have tk : TK H H1 := TK.but me0 (fun _ z => by cases z) b
  have nD : D ≠ ad .me := fun z => hD .me trivial z.symm
  refine ⟨⟨fun m l h1 h2 e => ?_, fun m hm => ?_⟩, tk⟩
  · by_cases c1 : m = .pa
    · by_cases c2 : l = .pa
      · rw [c1, c2]
      · rw [if_pos c1, if_neg c2] at e
        exact absurd e.symm (hD l h2)
    · by_cases c2 : l = .pa
      · rw [if_neg c1, if_pos c2] at e
        exact absurd e (hD m h1)
      · rw [if_neg c1, if_neg c2] at e
        exact N.inj m l h1 h2 e
  · by_cases c1 : m = .me
    · subst c1
      exact ⟨dx, e ▸ upd_same⟩
    · by_cases c2 : m = .pa
      · subst c2
        exact pa.tk tk fun o h => b _ _ nD h
      · have z := (N.at_ m hm).keep tk fun o h => b _ _ (fun y => c1 (N.inj m .me hm trivial y)) h
        cases m <;> first | exact z | exact absurd rfl c1 | exact absurd rfl c2
/-- switches and sides that are lost -/
def LsAt (H : Hp) (a : Addr) (ls : List (Nat × Nat)) : Prop := ∃ ts : List Addr, H a = some (.tup (ts.map V.ref)) ∧ PtsAt H ts ls
omit B in
theorem LsAt.tk {H H' : Hp} {a : Addr} {ls : List (Nat × Nat)} (h : LsAt H a ls) (e : TK H H') : LsAt H' a ls := by
  obtain ⟨ts, h1, h2⟩ := h
  exact ⟨ts, e _ _ h1, h2.keep e⟩
def pD (p : Nat × Nat) : PyData := .tuple ([((p.1 : Nat) : Int), ((p.2 : Nat) : Int)].map PyData.int)
omit B in
theorem inD_ls {s n : Nat} : ∀ (ls : List (Nat × Nat)), inD (ls.map pD) (pD (s, n)) = decide ((s, n) ∈ ls)
  | [] => by rw [decide_eq_false List.not_mem_nil]; rfl
  | p :: ls => by
    have h := inD_ls (s := s) (n := n) ls
    unfold inD at h ⊢
    rw [List.map_cons, List.any_cons, h]
    have e : PyData.eqv (pD p) (pD (s, n)) = (decide (p.1 = s) && decide (p.2 = n)) := pr_eqv
    rw [e]
    by_cases c : p = (s, n)
    · rw [c, decide_eq_true rfl, decide_eq_true rfl, decide_eq_true List.mem_cons_self]; rfl
    · have c2 : (decide (p.1 = s) && decide (p.2 = n)) = false := by
        rw [Bool.and_eq_false_iff, decide_eq_false_iff_not, decide_eq_false_iff_not]
        by_cases q : p.1 = s
        · exact .inr fun y => c (Prod.ext q y)
        · exact .inl q
      rw [c2, Bool.false_or]
      exact decide_eq_decide.mpr ⟨fun z => List.mem_cons_of_mem _ z, fun z => (List.mem_cons.mp z).elim (fun y => absurd y.symm c) id⟩
omit B in
theorem LsAt.dp {H : Hp} {a : Addr} {ls : List (Nat × Nat)} (h : LsAt H a ls) : Dp K H (.ref a) (.tuple (ls.map pD)) := by
  obtain ⟨ts, h1, h2, h3⟩ := h
  refine .tup (SqT.of h1) (dpAll_of (by rw [List.length_map, List.length_map, h2]) fun i x d hx hd => ?_)
  rw [List.getElem?_map] at hx hd
  obtain ⟨t, ht, rfl⟩ := Option.map_eq_some_iff.mp hx
  obtain ⟨p, hp, rfl⟩ := Option.map_eq_some_iff.mp hd
  exact tupI_dp (ns := [(p.1 : Nat), (p.2 : Nat)]) (SqT.of (h3 i t p ht hp))
omit B in
theorem ls_in {H : Hp} {a t : Addr} {s n : Nat} {ls : List (Nat × Nat)} {Q : VK} (h : LsAt H a ls) (ht : H t = some (.tup [.int (s : Nat), .int (n : Nat)])) (q : Q (.bl (!decide ((s, n) ∈ ls))) H) : rInD K true (.ref t) (.ref a) H Q := by
  refine ⟨pD (s, n), ls.map pD, tupI_dp (ns := [(s : Nat), (n : Nat)]) (SqT.of ht), .inl h.dp, Ly.tupI.can, can_all fun d hd => ?_, Nat.le_trans Ly.tupI.dep (by decide), ?_⟩
  · obtain ⟨p, _, rfl⟩ := List.mem_map.mp hd
    exact Ly.tupI.can
  · rw [inD_ls]
    exact q
def spGoOn (K : PySem.W.Frag) (C : Addr) : Sp := fun vs H Q _ => ∃ (ad : Nm → Addr) (st : NS) (lo : Addr) (ls : List (Nat × Nat)), vs = [.ref (ad .me), .ref lo] ∧ NetAt C H ad st ∧ Iv st ∧ LsAt H lo ls ∧ ls.length ≤ 100 ∧ st.now < 10 ^ 9 ∧ ∀ ad' H', Fr st.k ad ad' H H' → NetAt C H' ad' (goS st ls) → Q .non H'
theorem k_Net__go_on (D : DfM K (cAt mg "Net") "go_on" "Net.go_on" s_Net__go_on ["self", "lost"]) (D_Net__is_forgotten : DnM P w K mg base (cAt mg "Net") 1 "is_forgotten" ["self", "pair"] (spFgt K (cAt mg "Net"))) (D_Net__take : DnM P w K mg base (cAt mg "Net") 13 "take" ["self", "side"] (spTake K (cAt mg "Net"))) (D_Net__hand_on : DnM P w K mg base (cAt mg "Net") 16 "hand_on" ["self", "stage", "number"] (spHand K (cAt mg "Net"))) : DnM P w K mg base (cAt mg "Net") 17 "go_on" ["self", "lost"] (spGoOn K (cAt mg "Net")) := by
  refine D.ok fun f fd F => okG0 F sc_Net__go_on (fun vs H Q E h => ?_) (fun cdv A outer s H vs Q E hr h => ⟨_, (pss_cons (ps_set (i := 2) sc_Net__go_on.nd rfl (Or.inl rfl) (kk (K := K) (F := fun K => tFld K _ _) (P := PE _ _) (pe_fld (pv 0) rfl)))
    (pss_cons (kk (K := K) (F := fun K => sFld K _ _ _) (P := PS _ _) (ps_fld (pv 0) (pe_op op_add (kk (K := K) (F := fun K => tFld K _ _) (P := PE _ _) (pe_fld (pv 0) rfl)) pe_int) rfl))
    (pss_cons (kk (K := K) (F := fun K => sFld K _ _ _) (P := PS _ _) (ps_fld (pv 0) (pe_lc (own := [("pair", 6)]) (g := gName 6) rfl sc_Net__go_on.nd (kk (K := K) (F := fun K => iList K _) (P := PI _ _ _) (pi_list (kk (K := K) (F := fun K => tFld K _ _) (P := PE _ _) (pe_fld (pv 0) rfl)))) (blkOk_by (own := [("pair", 6)]) (N := ["self", "lost", "k", "side", "stage", "number", "pair"]) (sc := defScope s_Net__go_on) (by decide +kernel)) (fun _ _ _ _ _ => (pg_name (i := 6) sc_Net__go_on.nd rfl (Or.inl rfl))) (fun _ _ _ _ _ => (pts_one (pt_not (pt_val (pe_mG D_Net__is_forgotten B.Net_.cl (hr.less (by decide)) (pv 0) (pa_cons (pv 6) pa_nil)))))) (fun _ _ _ _ _ => (pv 6))) rfl))
    (pss_cons (ps_for PassesOwn.never rfl (pi_range1 (by rfl) B.range_ (pa_cons (pe_op op_shlW pe_int (pv 2)) pa_nil)) (pg_name (i := 3) sc_Net__go_on.nd rfl (Or.inl rfl))
      (pss_one (ps_if (pt_cmpR (kk (K := K) (F := fun K => rInD K true) (P := OpR _ _) (op_notInD hr.units)) (pe_tup (pa_cons pe_int (pa_cons (pv 3) pa_nil))) (pv 1) (by rfl))
       (pss_one (ps_expr (pe_mG D_Net__take B.Net_.cl (hr.less (by decide)) (pv 0) (pa_cons (pv 3) pa_nil))))
       pss_nil)))
    (pss_one (ps_for PassesOwn.never rfl (pi_range3 (by rfl) B.range_ (pa_cons (pv 2) (pa_cons pe_int (pa_cons (pe_un un_neg pe_int) pa_nil)))) (pg_name (i := 4) sc_Net__go_on.nd rfl (Or.inl rfl))
     (pss_one (ps_for PassesOwn.never rfl (pi_range1 (by rfl) B.range_ (pa_cons (pe_op op_shlW pe_int (pe_op op_sub (pv 2) pe_int)) pa_nil)) (pg_name (i := 5) sc_Net__go_on.nd rfl (Or.inl rfl))
      (pss_one (ps_if (pt_cmpR (kk (K := K) (F := fun K => rInD K true) (P := OpR _ _) (op_notInD hr.units)) (pe_tup (pa_cons (pv 4) (pa_cons (pv 5) pa_nil))) (pv 1) (by rfl))
       (pss_one (ps_expr (pe_mG D_Net__hand_on B.Net_.cl (hr.less (by decide)) (pv 0) (pa_cons (pv 4) (pa_cons (pv 5) pa_nil)))))
       pss_nil)))))))))), ?_⟩)
  · obtain ⟨ad, st, lo, ls, rfl, _⟩ := h; rfl
  · obtain ⟨ad, st, lo, ls, rfl, N, iv, hlo, hls, hnow, q⟩ := h
    obtain ⟨cl0, n1, n2, n3, n4, n5, n6, n7, n8, n9, n10, n11⟩ := netNo B
    obtain ⟨dx, me⟩ := N.top
    obtain ⟨ts, pa1, pa2, pa3⟩ := N.pa_
    try walk_at "go"
    generalize e1 : upd H (ad .me) _ = H1
    have e1 : upd H (ad .me) (.ins (cAt mg "Net") dx (nFs ad { st with now := st.now + 1 })) = H1 := e1
    obtain ⟨N1, F1, K1⟩ := N.nowP e1
    have me1 : H1 (ad .me) = some (.ins (cAt mg "Net") dx (nFs ad { st with now := st.now + 1 })) := e1 ▸ upd_same
    unfold nFs at me1
    try dsimp only at me1
    have pa11 := K1 .pa _ trivial (fun z => by cases z) pa1
    have tk1 := F1.tk N
    have lo1 := hlo.tk tk1
    try walk_at "go"
    intro D hD
    obtain ⟨s1, es1⟩ : ∃ s1 : NS, s1 = { st with now := st.now + 1 } := ⟨_, rfl⟩
    have s1e : s1.ends = st.ends := by rw [es1]
    rw [← es1] at N1
    have pal : ∀ y ∈ ts, y.2.2.2 < s1.ends.length := fun y hy => by
      rw [s1e, iv.wf.le]
      exact (iv.thr y.2 (by rw [← pa2]; exact List.mem_map.mpr ⟨y, hy, rfl⟩)).1
    have pan : ts.length ≤ 40 := by
      have a : ts.length = st.prs.length := by rw [← pa2, List.length_map]
      have b := iv.num
      have c := iv.wf.n40
      omega
    refine lc_list (K := K) (a := ad .pa) (xs := ts.map fun x => V.ref x.1) (fun i H' => Same H1 H' ∧ H' D = some (.lst (((ts.take i).filter fun y => !fgtS s1 y.2).map fun y => V.ref y.1))) ⟨same_new hD _, upd_same⟩ (fun i H' _ h => SqL.of (h.1 _ _ pa11)) ?_ ?_
    · rintro i v H2 hi ⟨S2, d2⟩
      rw [List.getElem?_map] at hi
      obtain ⟨y, hy, rfl⟩ := Option.map_eq_some_iff.mp hi
      have yl := pal y (List.mem_of_getElem? hy)
      have yt := S2 _ _ (tk1 _ _ (pa3 y (List.mem_of_getElem? hy)))
      have hlt : i < ts.length := (List.getElem?_eq_some_iff.mp hy).1
      have N2 := N1.same S2
      have me2 := S2 _ _ me1
      try walk_at "go"
      have al : (((ts.take i).filter fun y => !fgtS s1 y.2).map fun y => V.ref y.1).length ≤ 40 := by
        have a1 := List.length_filter_le (fun y : Addr × Nat × Nat × Nat => !fgtS s1 y.2) (ts.take i)
        rw [List.length_take] at a1
        rw [List.length_map]
        omega
      cases ec : fgtS s1 y.2 with
      | false =>
        refine ifT rfl ?_
        try walk_at "go"
        refine ⟨but_same hD S2 But.upd, ?_⟩
        rw [upd_same, take_snoc hy, List.filter_append, List.filter_cons, ec, List.map_append]
        rfl
      | true =>
        refine ifF rfl ?_
        exact ⟨S2, by rw [d2, take_snoc hy, List.filter_append, List.filter_cons, ec]; show _ = some (HO.lst ((_ ++ []).map _)); rw [List.append_nil]⟩
    · rintro H2 ⟨S2, d2⟩
      rw [List.length_map, List.take_length] at d2
      have me2 := S2 _ _ me1
      have N2 := N1.same S2
      try walk_at "go"
      generalize e3 : upd H2 (ad .me) _ = H3
      obtain ⟨s2, es2⟩ : ∃ s2 : NS, s2 = go0 st := ⟨_, rfl⟩
      have e3 : upd H2 (ad .me) (.ins (cAt mg "Net") dx (nFs (fun m => if m = .pa then D else ad m) s2)) = H3 := by rw [es2, ← e3]; rfl
      obtain ⟨ad2, ead⟩ : ∃ ad2 : Nm → Addr, ad2 = fun m => if m = .pa then D else ad m := ⟨_, rfl⟩
      have am2 : ad2 .me = ad .me := by rw [ead]; exact if_neg (fun z => by cases z)
      have k2 : s2.k = st.k := by rw [es2]; rfl
      have hDn : ∀ n, n.ok st.k → ad n ≠ D := fun n hn z => by
        have hn1 : n.ok s1.k := by rw [es1]; exact hn
        obtain ⟨o, ho, _⟩ := (N1.at_ n hn1).some
        rw [z, hD] at ho
        cases ho
      obtain ⟨N3, F3, S23⟩ : NetAt (cAt mg "Net") H3 ad2 s2 ∧ Fr st.k ad ad2 H1 H3 ∧ TK H2 H3 := by
        have e0 : s2 = { s1 with prs := s1.prs.filter fun p => !fgtS s1 p } := by rw [es2, es1]; rfl
        have pD : PrsAt H2 D (s1.prs.filter fun p => !fgtS s1 p) := ⟨ts.filter fun y => !fgtS s1 y.2, d2, by
          have : s1.prs = st.prs := by rw [es1]
          rw [this, ← pa2, List.filter_map]; rfl, fun y hy => S2 _ _ (tk1 _ _ (pa3 y (List.mem_filter.mp hy).1))⟩
        rw [e0] at e3
        obtain ⟨g1, g2⟩ := N2.rep (fun n hn => hDn n (by rw [es1] at hn; exact hn)) pD e3
        rw [ead, e0]
        have b3 : But (ad .me) H2 H3 := e3 ▸ But.upd
        refine ⟨g1, ⟨fun a o h no => b3 _ _ (fun z => no .me trivial z.symm) (S2 _ _ h), fun n hn => ?_, am2 ▸ ead ▸ rfl, fun a h => ?_⟩, g2⟩
        · by_cases c : n = .pa
          · refine .inr ?_
            rw [if_pos c]
            exact hD
          · exact .inl ⟨n, hn, (if_neg c).symm⟩
        · cases ea : H1 a with
          | none => exact absurd ea h
          | some o =>
            by_cases c : a = ad .me
            · rw [c, ← e3, upd_same]; exact fun z => by cases z
            · rw [b3 _ _ c (S2 _ _ ea)]; exact fun z => by cases z
      have me3 : H3 (ad .me) = some (.ins (cAt mg "Net") dx (nFs ad2 s2)) := by rw [ead]; exact e3 ▸ upd_same
      rw [← am2] at me3 ⊢
      have sh : CShl 1 (st.k : Int) := shl_ok (by have := iv.wf.k4; omega)
      have rg : RgC (st.k : Int) 0 (-1) st.k := rgK iv.wf.k4
      have eL : (1 : Int) * 2 ^ ((st.k : Nat) : Int).toNat = ((2 ^ st.k : Nat) : Int) := by rw [Int.one_mul, Int.toNat_natCast]; push_cast; rfl
      have e16 : 2 ^ st.k ≤ 16 := Nat.pow_le_pow_right (n := 2) (by decide) iv.wf.k4
      have F13 := F1.trans F3
      have tk13 : TK H H3 := F13.tk N
      have lo3 := hlo.tk tk13
      try walk_at "go"
      rw [eL, Int.toNat_natCast]
      have iv2 : Iv s2 := by rw [es2]; exact iv.go0
      refine for_range (lo := 0) (n := 2 ^ st.k) (fun i σ H' => ∃ v3 v4 v5 v6 : Option V, σ = [some (.ref (ad2 .me)), some (.ref lo), some (.int (st.k : Nat)), v3, v4, v5, v6] ∧ Fr st.k ad ad2 H H' ∧ NetAt (cAt mg "Net") H' ad2 ((List.range i).foldl (goT ls) s2) ∧ LsAt H' lo ls) ⟨_, _, _, _, rfl, F13, N3, lo3⟩ ?_ ?_
      · rintro i σ H4 hi ⟨v3, v4, v5, v6, rfl, F4, N4, lo4⟩
        rw [show (0 : Int) + (i : Nat) = (i : Nat) by omega]
        obtain ⟨s4, es4⟩ : ∃ s4, s4 = (List.range i).foldl (goT ls) s2 := ⟨_, rfl⟩
        have k4 : s4.k = st.k := by rw [es4, goTs_k, k2]
        have iv4 : Iv s4 := by rw [es4]; exact iv2.goTs (by rw [k2]; omega)
        have el : (List.range (i + 1)).foldl (goT ls) s2 = goT ls s4 i := by rw [List.range_succ, List.foldl_append, es4]; rfl
        rw [← es4] at N4
        simp only [el]
        have hi4 : i < 2 ^ s4.k := by rw [k4]; exact hi
        have tkr : ∀ it ∈ s4.rows s4.k i, (∀ n ∈ it.ns, n < s4.asked.length) ∧ s4.ord.length + it.ns.length ≤ 40 := fun it hit => ⟨fun n hn => (iv4.nlt hit hn).1, Nat.le_trans (iv4.nlen hit) iv4.wf.n40⟩
        have wf4 := iv4.wf
        try walk_at "go"
        intro p hp
        generalize eH5 : upd _ p _ = H5
        have SH5 := newS eH5 hp
        have op := newO eH5
        have op : H5 p = some (.tup [.int ((0 : Nat) : Int), .int (i : Nat)]) := op
        have N5 := N4.same SH5
        have lo5 := lo4.tk (TK.same SH5)
        have me5 : ∃ dx, H5 (ad2 .me) = some (.ins (cAt mg "Net") dx (nFs ad2 s4)) := N5.at_ .me trivial
        obtain ⟨dx5, me5⟩ := me5
        refine ⟨_, rfl, ?_⟩
        refine ls_in lo5 op ?_
        refine ⟨_, rfl, ?_⟩
        by_cases c : (0, i) ∈ ls
        · rw [decide_eq_true c]
          refine ifF rfl ?_
          refine ⟨_, _, _, _, rfl, F4.trans (Fr.same SH5), ?_, lo5⟩
          unfold goT
          rw [if_pos c]
          exact N5
        · rw [decide_eq_false c]
          refine ifT rfl ?_
          have eg : goT ls s4 i = takeS s4 i := if_neg c
          rw [eg]
          try walk_at "go"
          intro H6 F6 N6
          have tk6 : TK H5 H6 := F6.tk N5
          rw [k4] at F6
          exact ⟨_, _, _, _, rfl, F4.trans ((Fr.same SH5).trans F6), N6, lo5.tk tk6⟩
      · rintro σ H4 ⟨v3, v4, v5, v6, rfl, F4, N4, lo4⟩
        obtain ⟨s4, es4⟩ : ∃ s4, s4 = (List.range (2 ^ st.k)).foldl (goT ls) s2 := ⟨_, rfl⟩
        have es4' : s4 = (List.range (2 ^ s2.k)).foldl (goT ls) s2 := by rw [k2]; exact es4
        have k4 : s4.k = st.k := by rw [es4, goTs_k, k2]
        have iv4 : Iv s4 := by rw [es4]; exact iv2.goTs (by rw [k2]; omega)
        rw [← es4] at N4
        try walk_at "go"
        refine for_rangeC (lo := (st.k : Int)) (c := -1) (n := st.k) (fun i σ H' => ∃ v3 v4 v5 v6 : Option V, σ = [some (.ref (ad2 .me)), some (.ref lo), some (.int (st.k : Nat)), v3, v4, v5, v6] ∧ Fr st.k ad ad2 H H' ∧ NetAt (cAt mg "Net") H' ad2 ((List.range i).foldl (goR ls) s4) ∧ LsAt H' lo ls) ⟨_, _, _, _, rfl, F4, N4, lo4⟩ ?_ ?_
        · rintro i σ H5 hi ⟨v3, v4, v5, v6, rfl, F5, N5, lo5⟩
          have ei : (st.k : Int) + (i : Int) * -1 = ((st.k - i : Nat) : Int) := by omega
          rw [ei]
          obtain ⟨s5, es5⟩ : ∃ s5, s5 = (List.range i).foldl (goR ls) s4 := ⟨_, rfl⟩
          have k5 : s5.k = st.k := by rw [es5, goRs_k, k4]
          have iv5 : Iv s5 := by rw [es5]; exact iv4.goRs (by rw [k4]; omega)
          have el : (List.range (i + 1)).foldl (goR ls) s4 = goR ls s5 i := by rw [List.range_succ, List.foldl_append, es5]; rfl
          rw [← es5] at N5
          simp only [el]
          have e1k : ((st.k : Nat) : Int) - 1 = ((st.k - 1 : Nat) : Int) := by omega
          have sh1 : CShl 1 ((st.k : Int) - 1) := by rw [e1k]; exact shl_ok (by have := iv.wf.k4; omega)
          have eL1 : (1 : Int) * 2 ^ (((st.k : Nat) : Int) - 1).toNat = ((2 ^ st.k / 2 : Nat) : Int) := by
            rw [e1k, Int.one_mul, Int.toNat_natCast]
            have : 2 ^ st.k / 2 = 2 ^ (st.k - 1) := by
              obtain ⟨m, em⟩ : ∃ m, st.k = m + 1 := ⟨st.k - 1, by omega⟩
              rw [em, Nat.pow_succ, Nat.mul_div_cancel _ (by decide)]
              rfl
            rw [this]
            push_cast
            rfl
          have e8 : 2 ^ st.k / 2 ≤ 8 := by omega
          try walk_at "go"
          rw [eL1, Int.toNat_natCast]
          refine for_range (lo := 0) (n := 2 ^ st.k / 2) (fun m σ H' => ∃ v3 v5 v6 : Option V, σ = [some (.ref (ad2 .me)), some (.ref lo), some (.int (st.k : Nat)), v3, some (.int (st.k - i : Nat)), v5, v6] ∧ Fr st.k ad ad2 H H' ∧ NetAt (cAt mg "Net") H' ad2 ((List.range m).foldl (goH ls (st.k - i)) s5) ∧ LsAt H' lo ls) ⟨_, _, _, rfl, F5, N5, lo5⟩ ?_ ?_
          · rintro m σ H6 hm ⟨v3, v5, v6, rfl, F6, N6, lo6⟩
            rw [show (0 : Int) + (m : Nat) = (m : Nat) by omega]
            obtain ⟨s6, es6⟩ : ∃ s6, s6 = (List.range m).foldl (goH ls (st.k - i)) s5 := ⟨_, rfl⟩
            have iv6' : Iv s6 ∧ s6.k = s5.k := by
              rw [es6]
              exact foldl_iv (goH ls (st.k - i)) (fun z => Iv z ∧ z.k = s5.k) (List.range m) s5 ⟨iv5, rfl⟩ fun z n hn hz => ⟨hz.1.goH (by omega) (by rw [hz.2, k5]; omega) (by rw [hz.2, k5]; have := List.mem_range.mp hn; omega), (goH_k ..).trans hz.2⟩
            obtain ⟨iv6, k6⟩ := iv6'
            have k6 := k6.trans k5
            have el : (List.range (m + 1)).foldl (goH ls (st.k - i)) s5 = goH ls (st.k - i) s6 m := by rw [List.range_succ, List.foldl_append, es6]; rfl
            rw [← es6] at N6
            simp only [el]
            try walk_at "go"
            intro p hp
            generalize eH7 : upd _ p _ = H7
            have SH7 := newS eH7 hp
            have op := newO eH7
            have op : H7 p = some (.tup [.int (st.k - i : Nat), .int (m : Nat)]) := op
            have N7 := N6.same SH7
            have lo7 := lo6.tk (TK.same SH7)
            have me7 : ∃ dx, H7 (ad2 .me) = some (.ins (cAt mg "Net") dx (nFs ad2 s6)) := N7.at_ .me trivial
            obtain ⟨dx7, me7⟩ := me7
            refine ⟨_, rfl, ?_⟩
            refine ls_in lo7 op ?_
            refine ⟨_, rfl, ?_⟩
            by_cases c : (st.k - i, m) ∈ ls
            · rw [decide_eq_true c]
              refine ifF rfl ?_
              refine ⟨_, _, _, rfl, F6.trans (Fr.same SH7), ?_, lo7⟩
              unfold goH
              rw [if_pos c]
              exact N7
            · rw [decide_eq_false c]
              refine ifT rfl ?_
              have eg : goH ls (st.k - i) s6 m = handS s6 (st.k - i) m := if_neg c
              rw [eg]
              have w6 := iv6.wl_
              have g1 : 1 ≤ st.k - i := by omega
              have g2 : st.k - i ≤ s6.k := by omega
              have g3 : m < 2 ^ s6.k / 2 := by rw [k6]; exact hm
              have w7 := (iv6.hand1 (f := s6.now % 2) g1 g2 g3 (Nat.mod_lt _ (by decide))).wl_
              try walk_at "go"
              intro H8 F8 N8
              have tk8 : TK H7 H8 := F8.tk N7
              rw [k6] at F8
              exact ⟨_, _, _, rfl, F6.trans ((Fr.same SH7).trans F8), N8, lo7.tk tk8⟩
          · rintro σ H6 ⟨v3, v5, v6, rfl, F6, N6, lo6⟩
            refine ⟨_, _, _, _, rfl, F6, ?_, lo6⟩
            unfold goR
            rw [k5]
            exact N6
        · rintro σ H5 ⟨v3, v4, v5, v6, rfl, F5, N5, lo5⟩
          refine q ad2 H5 F5 ?_
          unfold goS
          rw [← es2, ← k2, ← es4', k2]
          exact N5
/-! SPLIT -/
/-! ### beats, asks put, a new net -/
def Plcs (k : Nat) (ls : List (Nat × Nat)) : Prop := ∀ p ∈ ls, Plc k p.1 p.2
def spWLost (K : PySem.W.Frag) (C : Addr) : Sp := fun vs H Q _ => ∃ (ad : Nm → Addr) (st : NS) (lo : Addr) (ls : List (Nat × Nat)), vs = [.ref (ad .me), .ref lo] ∧ NetAt C H ad st ∧ st.k ≤ 4 ∧ LsAt H lo ls ∧ Plcs st.k ls ∧ ls.length ≤ 100 ∧ ∀ H', Same H H' → Q .non H'
theorem k_Net__want_lost (D : DfM K (cAt mg "Net") "want_lost" "Net.want_lost" s_Net__want_lost ["self", "lost"]) (D_is_row : Dn P w K mg base 1 "is_row" ["thing"] (spRow K)) (D_is_place : Dn P w K mg base 4 "is_place" ["k", "thing"] (spPlace K)) : DnM P w K mg base (cAt mg "Net") 6 "want_lost" ["self", "lost"] (spWLost K (cAt mg "Net")) := by
  refine D.ok fun f fd F => okG0 F sc_Net__want_lost (fun vs H Q E h => ?_) (fun cdv A outer s H vs Q E hr h => ⟨_, (pss_one (ps_if (PW.pt (pw_or (pt_not (pt_val (pe_cD D_is_row (hr.less (by decide)) rfl (pa_cons (pv 1) pa_nil)))) (pw_or1 (pt_not (pt_val (pe_callB (kk (K := K) (F := rAll) (P := CallR _ _) (cr_all rfl)) (by rfl) B.all_ (by decide +kernel) (pa_cons (pe_lc (own := [("one", 2)]) (g := gName 2) (tt := tYes) rfl sc_Net__want_lost.nd (kk (K := K) (F := fun K => iTup K _) (P := PI _ _ _) (pi_tup (pv 1))) (blkOk_by (own := [("one", 2)]) (N := ["self", "lost", "one"]) (sc := defScope s_Net__want_lost) (by decide +kernel)) (fun _ _ _ _ _ => (pg_name (i := 2) sc_Net__want_lost.nd rfl (Or.inl rfl))) (fun _ _ _ _ _ => pts_nil) (fun _ _ _ _ _ => (pe_cD D_is_place (hr.less (by decide)) rfl (pa_cons (kk (K := K) (F := fun K => tFld K _ _) (P := PE _ _) (pe_fld (pv 0) rfl)) (pa_cons (pv 2) pa_nil))))) pa_nil)))))))
     (pss_one ps_never)
     pss_nil)), ?_⟩)
  · obtain ⟨ad, st, lo, ls, rfl, _⟩ := h; rfl
  · obtain ⟨ad, st, lo, ls, rfl, N, hk, hlo, hp, hls, q⟩ := h
    obtain ⟨cl0, n1, n2, n3, n4, n5, n6, n7, n8, n9, n10, n11⟩ := netNo B
    obtain ⟨dx, me⟩ := N.top
    obtain ⟨ts, l1, l2, l3⟩ := hlo
    try walk_at "go"
    intro D hD
    refine lc_tup (K := K) (a := lo) (xs := ts.map V.ref) (fun i H' => Same H H' ∧ H' D = some (.lst ((List.replicate i true).map V.bl))) ⟨same_new hD _, upd_same⟩ (fun i H' _ h => SqT.of (h.1 _ _ l1)) ?_ ?_
    · rintro i y H2 hi ⟨S2, d2⟩
      rw [List.getElem?_map] at hi
      obtain ⟨t, ht, rfl⟩ := Option.map_eq_some_iff.mp hi
      have hi2 : i < ts.length := (List.getElem?_eq_some_iff.mp ht).1
      have hi3 : i < ls.length := by omega
      have t2 := S2 _ _ (l3 i t ls[i] ht (List.getElem?_eq_getElem hi3))
      have pl := hp ls[i] (List.getElem_mem hi3)
      have me2 := S2 _ _ me
      try walk_at "go"
      exact ⟨but_same hD S2 But.upd, by rw [upd_same, rep_snoc]⟩
    · rintro H2 ⟨S2, d2⟩
      try walk_at "go"
      rw [rep_all]
      exact ifF rfl (q H2 S2)
omit B in
theorem NetAt.asP {C : Addr} {H H1 : Hp} {ad : Nm → Addr} {st : NS} {vs : List V} {as' : List (Nat × Dd)} (N : NetAt C H ad st) (e : upd H (ad .as) (.lst vs) = H1) (h : ∃ ts : List (Addr × Nat × Dd), vs = ts.map (fun x => V.ref x.1) ∧ ts.map (fun x => x.2) = as' ∧ ∀ x ∈ ts, ∃ da, H x.1 = some (.tup [.int (x.2.1 : Nat), .ref da]) ∧ H da = some (.tup x.2.2.vs)) : NetAt C H1 ad { st with asked := as' } ∧ Fr st.k ad ad H H1 ∧ (∀ m o, m.ok st.k → m ≠ .as → H (ad m) = some o → H1 (ad m) = some o) := by
  have b : But (ad .as) H H1 := e ▸ But.upd
  have o1 : H1 (ad .as) = some (.lst vs) := e ▸ upd_same
  obtain ⟨o, g1, g2⟩ := (N.at_ .as trivial).some
  have tk := TK.but g1 g2 b
  refine ⟨N.put (n := .as) trivial b rfl (fun m hm z => ?_) ?_, Fr.but (n := .as) trivial b o1, fun m o h1 h2 h3 => b _ _ (fun z => h2 (N.inj m _ h1 trivial z)) h3⟩
  · cases m <;> first | exact z | exact absurd rfl hm
  · obtain ⟨ts, h1, h2, h3⟩ := h
    refine ⟨ts, by rw [o1, h1], h2, fun x hx => ?_⟩
    obtain ⟨da, g1, g2⟩ := h3 x hx
    exact ⟨da, tk _ _ g1, tk _ _ g2⟩
def spPutN (K : PySem.W.Frag) (C : Addr) : Sp := fun vs H Q _ => ∃ (ad : Nm → Addr) (st : NS) (x : Ak) (h : Nat), vs = [.ref (ad .me), .ref x.a] ∧ NetAt C H ad st ∧ Iv st ∧ x.at_ H st.am.length ∧ x.hand = (h : Nat) ∧ h < 2 ^ st.k ∧ st.asked.length < 40 ∧ ∀ H', Fr st.k ad ad H H' → NetAt C H' ad (putS st h x.box x.d) → Q (.int (st.asked.length : Nat)) H'
theorem k_Net__put (D : DfM K (cAt mg "Net") "put" "Net.put" s_Net__put ["self", "ask"]) (D_is_ask : Dn P w K mg base 4 "is_ask" ["board", "thing"] (spIsAskL K)) (D_Net__want_hand : DnM P w K mg base (cAt mg "Net") 1 "want_hand" ["self", "hand"] (spWHand K (cAt mg "Net"))) : DnM P w K mg base (cAt mg "Net") 6 "put" ["self", "ask"] (spPutN K (cAt mg "Net")) := by
  refine D.ok fun f fd F => okG0 F sc_Net__put (fun vs H Q E h => ?_) (fun cdv A outer s H vs Q E hr h => ⟨_, (pss_cons (ps_if (pt_not (pt_val (pe_cD D_is_ask (hr.less (by decide)) rfl (pa_cons (kk (K := K) (F := fun K => tFld K _ _) (P := PE _ _) (pe_fld (pv 0) rfl)) (pa_cons (pv 1) pa_nil)))))
      (pss_one ps_never)
      pss_nil)
    (pss_cons (ps_asg (pv 1) (kk (K := K) (F := fun K => gTup K 3 _) (P := PG _ _) (pg_tup rfl (pgs_cons (pg_name (i := 2) sc_Net__put.nd rfl (Or.inl rfl)) (pgs_cons (pg_name (i := 3) sc_Net__put.nd rfl (Or.inl rfl)) (pgs_cons (pg_name (i := 4) sc_Net__put.nd rfl (Or.inl rfl)) pgs_nil))))))
    (pss_cons (ps_expr (pe_mG D_Net__want_hand B.Net_.cl (hr.less (by decide)) (pv 0) (pa_cons (pv 2) pa_nil)))
    (pss_cons (ps_set (i := 5) sc_Net__put.nd rfl (Or.inl rfl) (pe_callB (lenK (K := K)) (by rfl) B.len_ (by decide +kernel) (pa_cons (kk (K := K) (F := fun K => tFld K _ _) (P := PE _ _) (pe_fld (pv 0) rfl)) pa_nil)))
    (pss_cons (ps_if (pt_cmpR op_eq (pv 5) (pe_glob (v := .int (40)) (u := .int (40) B.MOST_ASKS_.choose) (by rfl) B.MOST_ASKS_.choose_spec ⟨_, rfl⟩) (nomark _))
      (pss_one ps_never)
      pss_nil)
    (pss_cons (ps_expr (kk (K := K) (F := fun K => tBM K "list" _ _ _) (P := PE _ _) (pe_bm PySem.F.plainAttrs_list PySem.F.slot_list_append PySem.F.type_list_append mt_append (kk (K := K) (F := fun K => tFld K _ _) (P := PE _ _) (pe_fld (pv 0) rfl)) (pa_cons (pe_tup (pa_cons (pv 3) (pa_cons (pv 4) pa_nil))) pa_nil))))
    (pss_cons (ps_expr (kk (K := K) (F := fun K => tBM K "list" _ _ _) (P := PE _ _) (pe_bm PySem.F.plainAttrs_list PySem.F.slot_list_append PySem.F.type_list_append mt_append (kk (K := K) (F := fun K => tFld K _ _) (P := PE _ _) (pe_fld (pv 0) rfl)) (pa_cons pe_non pa_nil))))
    (pss_cons (ps_expr (kk (K := K) (F := fun K => tBM K "list" _ _ _) (P := PE _ _) (pe_bm PySem.F.plainAttrs_list PySem.F.slot_list_append PySem.F.type_list_append mt_append (kk (K := K) (F := fun K => tFld K _ _) (P := PE _ _) (pe_fld (pv 0) rfl)) (pa_cons pe_non pa_nil))))
    (pss_cons (ps_expr (kk (K := K) (F := fun K => tBM K "list" _ _ _) (P := PE _ _) (pe_bm PySem.F.plainAttrs_list PySem.F.slot_list_append PySem.F.type_list_append mt_append (pe_ix (kk (K := K) (F := rIxL) (P := IxR _) ix_list) (pe_ix (kk (K := K) (F := rIxL) (P := IxR _) ix_list) (kk (K := K) (F := fun K => tFld K _ _) (P := PE _ _) (pe_fld (pv 0) rfl)) pe_int (fun _ _ => rfl)) (pv 2) (fun _ _ => rfl)) (pa_cons (pe_tup (pa_cons (pv 3) (pa_cons (pv 4) (pa_cons (pe_tup (pa_cons (pv 5) pa_nil)) pa_nil)))) pa_nil))))
    (pss_one (ps_ret (pv 5)))))))))))), ?_⟩)
  · obtain ⟨ad, st, x, h, rfl, _⟩ := h; rfl
  · obtain ⟨ad, st, x, g, rfl, N, iv, hx, hg, hh, hn, q⟩ := h
    obtain ⟨cl0, n1, n2, n3, n4, n5, n6, n7, n8, n9, n10, n11⟩ := netNo B
    obtain ⟨dx, me⟩ := N.top
    have hk := iv.wf.k4
    obtain ⟨as, as1, as2, as3⟩ := N.as_
    obtain ⟨ts, ln1, ln2, ln3⟩ := N.ln_ (j := 0) (Nat.zero_le _) hh
    obtain ⟨hxa0, hxd, h0, h1, hbx⟩ := id hx
    have hxa : H x.a = some (.tup [.int (g : Nat), .int (x.box : Nat), .ref x.da]) := by rw [← hg]; exact hxa0
    clear hxa0
    have hda := hxd.1
    have la : (as.map fun z => V.ref z.1).length = st.asked.length := by rw [List.length_map, ← as2, List.length_map]
    have l40 : st.ans.length ≤ 40 := by rw [iv.wf.la]; omega
    have e40 : st.ends.length ≤ 40 := by rw [iv.wf.le]; omega
    have lan : (st.ans.map oV).length ≤ 40 := by rw [List.length_map]; omega
    have len : (st.ends.map oN).length ≤ 40 := by rw [List.length_map]; omega
    have llt : (ts.map fun z => V.ref z.1).length ≤ 40 := by
      have := iv.wl_.len 0 g
      rw [← ln2, List.length_map] at this
      rw [List.length_map]
      exact this
    have x1 : atI ((List.range (st.k + 1)).map fun j => V.ref (ad (.lv j))) 0 = some (.ref (ad (.lv 0))) := at_of (j := 0) rfl (by rw [List.getElem?_map, List.getElem?_range (by omega)] <;> rfl)
    have x2 : atI ((List.range (2 ^ st.k)).map fun l => V.ref (ad (.ln 0 l))) (g : Int) = some (.ref (ad (.ln 0 g))) := at_of (j := g) rfl (by rw [List.getElem?_map, List.getElem?_range hh] <;> rfl)
    have am := N.am_
    have rw0 := N.rw_
    have lv0 := N.lv_ (Nat.zero_le _)
    have an := N.an_
    have en := N.en_
    try walk_at "go"
    rw [la]
    refine ifF (decide_eq_false (fun z => by have := V.int.inj z; omega)) ?_
    try walk_at "go"
    intro t ht
    generalize eH1 : upd _ t _ = H1
    have SH1 := newS eH1 ht
    have ot := newO eH1
    have me1 := SH1 _ _ me
    have as11 := SH1 _ _ as1
    try walk_at "go"
    generalize e2 : upd H1 (ad .as) _ = H2
    have N1 := N.same SH1
    obtain ⟨N2, F2, K2⟩ := N1.asP (as' := st.asked ++ [(x.box, x.d)]) e2 ⟨as ++ [(t, x.box, x.d)], by rw [List.map_append] <;> rfl, by rw [List.map_append, as2] <;> rfl, fun z hz => by
      rcases List.mem_append.mp hz with w | w
      · obtain ⟨da, w1, w2⟩ := as3 z w
        exact ⟨da, SH1 _ _ w1, SH1 _ _ w2⟩
      · rw [List.mem_singleton.mp w]
        exact ⟨x.da, ot, SH1 _ _ hda⟩⟩
    have me2 := K2 .me _ trivial (fun z => by cases z) me1
    have an2 := K2 .an _ trivial (fun z => by cases z) (SH1 _ _ an)
    have en2 := K2 .en _ trivial (fun z => by cases z) (SH1 _ _ en)
    have rw2 := K2 .rw _ trivial (fun z => by cases z) (SH1 _ _ rw0)
    have lv2 := K2 (.lv 0) _ (Nat.zero_le _) (fun z => by cases z) (SH1 _ _ lv0)
    have lo : (Nm.ln 0 g).ok st.k := ⟨Nat.zero_le _, hh⟩
    have ln12 := K2 (.ln 0 g) _ lo (fun z => by cases z) (SH1 _ _ ln1)
    have tk2 : TK H H2 := (TK.same SH1).trans (F2.tk N1)
    try dsimp only at N2
    try walk_at "go"
    generalize e3 : upd H2 (ad .an) _ = H3
    obtain ⟨N3, F3, K3⟩ := N2.anP (ans' := st.ans ++ [none]) e3 (by rw [List.map_append] <;> rfl)
    have me3 := K3 .me _ trivial (fun z => by cases z) me2
    have en3 := K3 .en _ trivial (fun z => by cases z) en2
    have rw3 := K3 .rw _ trivial (fun z => by cases z) rw2
    have lv3 := K3 (.lv 0) _ (Nat.zero_le _) (fun z => by cases z) lv2
    have ln13 := K3 (.ln 0 g) _ lo (fun z => by cases z) ln12
    have tk3 : TK H H3 := tk2.trans (F3.tk N2)
    try dsimp only at N3
    try walk_at "go"
    generalize e4 : upd H3 (ad .en) _ = H4
    obtain ⟨N4, F4, K4⟩ := N3.enP (ends' := st.ends ++ [none]) e4 (by rw [List.map_append] <;> rfl)
    have me4 := K4 .me _ trivial (fun z => by cases z) me3
    have rw4 := K4 .rw _ trivial (fun z => by cases z) rw3
    have lv4 := K4 (.lv 0) _ (Nat.zero_le _) (fun z => by cases z) lv3
    have ln14 := K4 (.ln 0 g) _ lo (fun z => by cases z) ln13
    have tk4 : TK H H4 := tk3.trans (F4.tk N3)
    try dsimp only at N4
    try walk_at "go"
    intro u hu
    generalize eH5 : upd _ u _ = H5
    have SH5 := newS eH5 hu
    have ou := newO eH5
    have ou : H5 u = some (.tup (([st.asked.length] : List Nat).map fun n => V.int (n : Nat))) := ou
    have ln15 := SH5 _ _ ln14
    try walk_at "go"
    intro v hv
    generalize eH6 : upd _ v _ = H6
    have SH6 := newS eH6 hv
    have ov := newO eH6
    have ln16 := SH6 _ _ ln15
    try walk_at "go"
    generalize e7 : upd H6 (ad (.ln 0 g)) _ = H7
    have S6 := SH5.trans SH6
    have N6 := N4.same S6
    obtain ⟨N7, F7, K7⟩ := N6.lnP (its := st.rows 0 g ++ [⟨x.box, x.d, [st.asked.length]⟩]) (Nat.zero_le _) hh e7 ⟨ts ++ [(v, ⟨x.box, x.d, [st.asked.length]⟩)], by rw [List.map_append] <;> rfl, by rw [List.map_append, ln2] <;> rfl, fun z hz => by
      rcases List.mem_append.mp hz with w | w
      · exact (ln3 z w).tk (tk4.trans (TK.same S6))
      · rw [List.mem_singleton.mp w]
        exact ⟨x.da, u, ov, S6 _ _ (tk4 _ _ hda), SH6 _ _ ou⟩⟩
    try walk_at "go"
    exact q H7 ((Fr.same SH1).trans (F2.trans (F3.trans (F4.trans ((Fr.same S6).trans F7))))) N7
/-! SPLIT -/
/-- what a beat tells -/
def toldS (st : NS) : List (Nat × Option Int) := ((List.range st.ends.length).filter fun n => match st.ends.getD n none with | none => false | some e => decide (e + st.k = st.now)).map fun n => (n, st.ans.getD n none)
def ToldAt (H : Hp) (a : Addr) (xs : List (Nat × Option Int)) : Prop := ∃ ts : List (Addr × Nat × Option Int), H a = some (.tup (ts.map fun x => V.ref x.1)) ∧ ts.map (fun x => x.2) = xs ∧ ∀ x ∈ ts, H x.1 = some (.tup [.int (x.2.1 : Nat), oV x.2.2])
def spBeat (K : PySem.W.Frag) (C : Addr) : Sp := fun vs H Q _ => ∃ (ad : Nm → Addr) (st : NS) (v : V) (ls : List (Nat × Nat)), vs = [.ref (ad .me), v] ∧ NetAt C H ad st ∧ Iv st ∧ ((v = .non ∧ ls = []) ∨ ∃ lo, v = .ref lo ∧ LsAt H lo ls ∧ Plcs st.k ls) ∧ ls.length ≤ 100 ∧ st.now < 10 ^ 9 ∧ ∀ a ad' H', Fr st.k ad ad' H H' → NetAt C H' ad' (goS st ls) → ToldAt H' a (toldS (goS st ls)) → Q (.ref a) H'
theorem k_Net__beat (D : DfMd K (cAt mg "Net") "beat" "Net.beat" s_Net__beat ["self", "lost"] [.non]) (D_Net__want_lost : DnM P w K mg base (cAt mg "Net") 6 "want_lost" ["self", "lost"] (spWLost K (cAt mg "Net"))) (D_Net__go_on : DnM P w K mg base (cAt mg "Net") 17 "go_on" ["self", "lost"] (spGoOn K (cAt mg "Net"))) : DnMd P w K mg base (cAt mg "Net") 18 "beat" ["self", "lost"] [.non] (spBeat K (cAt mg "Net")) := by
  refine D.ok fun f fd F => okG0A F sc_Net__beat (fun vs H Q E h => ?_) (fun cdv A outer s H vs Q E hr h => ⟨_, (pss_cons (ps_if (pt_cmpR op_notN (pv 1) pe_non (nomark _))
      (pss_one (ps_expr (pe_mG D_Net__want_lost B.Net_.cl (hr.less (by decide)) (pv 0) (pa_cons (pv 1) pa_nil))))
      pss_nil)
    (pss_cons (ps_expr (pe_mG D_Net__go_on B.Net_.cl (hr.less (by decide)) (pv 0) (pa_cons (pe_ifExp (pt_cmpR op_isN (pv 1) pe_non (nomark _)) (pe_tup pa_nil) (pv 1)) pa_nil)))
    (pss_cons (ps_set (i := 2) sc_Net__beat.nd rfl (Or.inl rfl) (kk (K := K) (F := fun K => tFld K _ _) (P := PE _ _) (pe_fld (pv 0) rfl)))
    (pss_cons (ps_setLc (i := 3) (own := [("number", 4), ("end", 5)]) rfl sc_Net__beat.nd rfl rfl (sw_true rfl rfl rfl (by decide +kernel)) (kk (K := K) (F := fun K => iEnum K _) (P := PI _ _ _) (pi_enum (by rfl) B.enumerate_ (pa_cons (pv 2) pa_nil))) (blkOk_by (own := [("number", 4), ("end", 5)]) (N := ["self", "lost", "ends", "some", "number", "end"]) (sc := defScope s_Net__beat) (by decide +kernel)) (fun _ _ _ _ _ => (kk (K := K) (F := fun K => gTup K 2 _) (P := PG _ _) (pg_tup rfl (pgs_cons (pg_name (i := 4) sc_Net__beat.nd rfl (Or.inl rfl)) (pgs_cons (pg_name (i := 5) sc_Net__beat.nd rfl (Or.inl rfl)) pgs_nil))))) (fun _ _ _ _ _ => (pts_one (PW.pt (pw_and (pt_cmpR op_notN (pv 5) pe_non (nomark _)) (pw_and1 (pt_cmpR op_eq (pe_op op_add (pv 5) (kk (K := K) (F := fun K => tFld K _ _) (P := PE _ _) (pe_fld (pv 0) rfl))) (kk (K := K) (F := fun K => tFld K _ _) (P := PE _ _) (pe_fld (pv 0) rfl)) (nomark _))))))) (fun _ _ _ _ _ => (pv 4)))
    (pss_one (ps_ret (pe_callTy (tupOfK (K := K)) (by rfl) B.tuple_ (by decide +kernel) (pa_cons (pe_lc (own := [("number", 4)]) (g := gName 4) (tt := tYes) rfl sc_Net__beat.nd (kk (K := K) (F := fun K => iList K _) (P := PI _ _ _) (pi_list (pv 3))) (blkOk_by (own := [("number", 4)]) (N := ["self", "lost", "ends", "some", "number", "end"]) (sc := defScope s_Net__beat) (by decide +kernel)) (fun _ _ _ _ _ => (pg_name (i := 4) sc_Net__beat.nd rfl (Or.inl rfl))) (fun _ _ _ _ _ => pts_nil) (fun _ _ _ _ _ => (pe_tup (pa_cons (pv 4) (pa_cons (pe_ix (kk (K := K) (F := rIxL) (P := IxR _) ix_list) (kk (K := K) (F := fun K => tFld K _ _) (P := PE _ _) (pe_fld (pv 0) rfl)) (pv 4) (fun _ _ => rfl)) pa_nil))))) pa_nil)))))))), ?_⟩)
  · obtain ⟨ad, st, v, ls, rfl, _⟩ := h; rfl
  · obtain ⟨ad, st, v, ls, rfl, N, iv, hv, hls, hnow, q⟩ := h
    obtain ⟨cl0, n1, n2, n3, n4, n5, n6, n7, n8, n9, n10, n11⟩ := netNo B
    obtain ⟨dx, me⟩ := N.top
    have hk := iv.wf.k4
    rcases hv with ⟨rfl, els⟩ | ⟨lo, rfl, hlo, hp⟩
    · try walk_at "go"
      intro p hp
      generalize eH1 : upd _ p _ = H1
      have SH1 := newS eH1 hp
      have op := newO eH1
      have lo1 : LsAt H1 p ls := ⟨[], op, by rw [els]; exact ⟨rfl, fun j t p h => by simp at h⟩⟩
      have N1 := N.same SH1
      try walk_at "go"
      intro ad' H2 F2 N2
      obtain ⟨s2, es2⟩ : ∃ s2, s2 = goS st ls := ⟨_, rfl⟩
      have iv2 : Iv s2 := by rw [es2]; exact iv.go ls
      rw [← es2] at N2 q
      have e0 : ad' .me = ad .me := F2.me
      obtain ⟨dx2, me2⟩ := N2.top
      rw [e0] at me2
      have en2 := N2.en_
      have an2 := N2.an_
      have F12 := (Fr.same SH1).trans F2
      have e40 : s2.ends.length ≤ 40 := by rw [iv2.wf.le]; exact iv2.wf.n40
      obtain ⟨sel, esel⟩ : ∃ sel : Nat → Bool, sel = fun n => match s2.ends.getD n none with | none => false | some e => decide (e + s2.k = s2.now) := ⟨_, rfl⟩
      try walk_at "go"
      intro D hD
      refine lc_enum (K := K) (a := ad' .en) (xs := s2.ends.map oN) (fun i H' => Same H2 H' ∧ H' D = some (.lst (((List.range i).filter sel).map fun n => V.int (n : Nat)))) ⟨same_new hD _, upd_same⟩ (fun i H' _ h => SqL.of (h.1 _ _ en2)) ?_ ?_
      · rintro i x T H3 hi ⟨S3, d3⟩ hT
        rw [List.getElem?_map] at hi
        obtain ⟨o, ho, rfl⟩ := Option.map_eq_some_iff.mp hi
        have hi2 : i < s2.ends.length := (List.getElem?_eq_some_iff.mp ho).1
        have eg : s2.ends.getD i none = o := by rw [List.getD_eq_getElem?_getD, ho]; rfl
        have ST := same_new hT (.tup [.int i, oN o])
        have hU := upd_same (H := H3) (a := T) (o := .tup [.int i, oN o])
        generalize upd H3 T (.tup [.int i, oN o]) = H4 at ST hU
        have d4 := ST _ _ d3
        have me4 := ST _ _ (S3 _ _ me2)
        have al : (((List.range i).filter sel).map fun n => V.int (n : Nat)).length ≤ 40 := by
          have a1 := List.length_filter_le sel (List.range i)
          rw [List.length_range] at a1
          rw [List.length_map]
          omega
        try walk_at "go"
        cases o with
        | none =>
          have es : sel i = false := by rw [esel]; dsimp only; rw [eg]
          refine ifF rfl ?_
          refine ifF rfl ?_
          exact ⟨S3.trans ST, by rw [d4, List.range_succ, List.filter_append, List.filter_cons, es]; show _ = some (HO.lst ((_ ++ []).map _)); rw [List.append_nil]⟩
        | some e =>
          have es : sel i = decide (e + s2.k = s2.now) := by rw [esel]; dsimp only; rw [eg]
          refine ifT rfl ?_
          have hU : H4 T = some (.tup [.int i, .int (e : Nat)]) := hU
          show tTest _ ((List.set _ 4 _).set 5 (some (.int (e : Nat)))) H4 _
          try walk_at "go"
          have ed : decide ((fun i j => V.int (i + j)) (e : Int) (s2.k : Int) = V.int (s2.now : Nat)) = decide (e + s2.k = s2.now) := decide_eq_decide.mpr ⟨fun z => by have := V.int.inj z; omega, fun z => by show V.int _ = V.int _; rw [← z]; rfl⟩
          rw [ed]
          cases ec : decide (e + s2.k = s2.now) with
          | true =>
            rw [ec] at es
            refine ifT rfl ?_
            try walk_at "go"
            exact ⟨but_same hD (S3.trans ST) But.upd, by rw [upd_same, List.range_succ, List.filter_append, List.filter_cons, es, List.map_append]; rfl⟩
          | false =>
            rw [ec] at es
            refine ifF rfl ?_
            exact ⟨S3.trans ST, by rw [d4, List.range_succ, List.filter_append, List.filter_cons, es]; show _ = some (HO.lst ((_ ++ []).map _)); rw [List.append_nil]⟩
      · rintro H3 ⟨S3, d3⟩
        rw [List.length_map] at d3
        have me3 := S3 _ _ me2
        have an3 := S3 _ _ an2
        try walk_at "go"
        intro E hE
        have nDE : D ≠ E := fun z => by rw [← z, d3] at hE; cases hE
        obtain ⟨ns, ens⟩ : ∃ ns, ns = (List.range s2.ends.length).filter sel := ⟨_, rfl⟩
        rw [← ens] at d3
        have nlt : ∀ n ∈ ns, n < s2.ans.length := fun n hn => by
          rw [ens] at hn
          have := List.mem_range.mp (List.mem_filter.mp hn).1
          rw [iv2.wf.la, ← iv2.wf.le]
          exact this
        have nl : ns.length ≤ 40 := by
          have a1 := List.length_filter_le sel (List.range s2.ends.length)
          rw [List.length_range, ← ens] at a1
          omega
        refine lc_list (K := K) (a := D) (xs := ns.map fun n => V.int (n : Nat)) (fun i H' => Same H3 H' ∧ ∃ ts : List (Addr × Nat × Option Int), H' E = some (.lst (ts.map fun x => V.ref x.1)) ∧ ts.map (fun x => x.2) = (ns.take i).map (fun n => (n, s2.ans.getD n none)) ∧ ∀ x ∈ ts, H' x.1 = some (.tup [.int (x.2.1 : Nat), oV x.2.2])) ⟨same_new hE _, [], upd_same, rfl, fun x hx => absurd hx List.not_mem_nil⟩ (fun i H' _ h => SqL.of (h.1 _ _ d3)) ?_ ?_
        · rintro i v H5 hi ⟨S5, ts, t1, t2, t3⟩
          rw [List.getElem?_map] at hi
          obtain ⟨n, hn, rfl⟩ := Option.map_eq_some_iff.mp hi
          have nl2 := nlt n (List.mem_of_getElem? hn)
          have hi2 := (List.getElem?_eq_some_iff.mp hn).1
          have me5 := S5 _ _ me3
          have an5 := S5 _ _ an3
          have ga : atI (s2.ans.map oV) (n : Int) = some (oV (s2.ans.getD n none)) := at_of (j := n) rfl (by rw [List.getElem?_map, List.getD_eq_getElem?_getD, List.getElem?_eq_getElem nl2] <;> rfl)
          have tl : (ts.map fun x => V.ref x.1).length ≤ 40 := by
            have := congrArg List.length t2
            rw [List.length_map, List.length_map, List.length_take] at this
            rw [List.length_map]
            omega
          try walk_at "go"
          intro t ht
          generalize eH6 : upd _ t _ = H6
          have SH6 := newS eH6 ht
          have ot := newO eH6
          have t16 := SH6 _ _ t1
          try walk_at "go"
          have nE : H6 E ≠ none := by rw [t16]; exact fun z => by cases z
          refine ⟨but_same hE (S5.trans SH6) But.upd, ts ++ [(t, n, s2.ans.getD n none)], by rw [upd_same, List.map_append] <;> rfl, by rw [List.map_append, t2, take_snoc hn, List.map_append] <;> rfl, fun x hx => ?_⟩
          have hx6 : H6 x.1 = some (.tup [.int (x.2.1 : Nat), oV x.2.2]) := by
            rcases List.mem_append.mp hx with w | w
            · exact SH6 _ _ (t3 x w)
            · rw [List.mem_singleton.mp w]; exact ot
          rw [upd_ne (ne_of hx6 t16 (fun z => by cases z))]
          exact hx6
        · rintro H5 ⟨S5, ts, t1, t2, t3⟩
          rw [List.length_map, List.take_length] at t2
          try walk_at "go"
          intro a ha
          generalize eH6 : upd _ a _ = H6
          have SH6 := newS eH6 ha
          have oa := newO eH6
          have S6 := (S3.trans S5).trans SH6
          refine q a ad' H6 (F12.trans (Fr.same S6)) (N2.same S6) ⟨ts, oa, ?_, fun x hx => SH6 _ _ (t3 x hx)⟩
          unfold toldS
          rw [t2, ens, esel]
    · try walk_at "go"
      intro H1 SH1
      have lo1 := hlo.tk (TK.same SH1)
      have N1 := N.same SH1
      try walk_at "go"
      intro ad' H2 F2 N2
      obtain ⟨s2, es2⟩ : ∃ s2, s2 = goS st ls := ⟨_, rfl⟩
      have iv2 : Iv s2 := by rw [es2]; exact iv.go ls
      rw [← es2] at N2 q
      have e0 : ad' .me = ad .me := F2.me
      obtain ⟨dx2, me2⟩ := N2.top
      rw [e0] at me2
      have en2 := N2.en_
      have an2 := N2.an_
      have F12 := (Fr.same SH1).trans F2
      have e40 : s2.ends.length ≤ 40 := by rw [iv2.wf.le]; exact iv2.wf.n40
      obtain ⟨sel, esel⟩ : ∃ sel : Nat → Bool, sel = fun n => match s2.ends.getD n none with | none => false | some e => decide (e + s2.k = s2.now) := ⟨_, rfl⟩
      try walk_at "go"
      intro D hD
      refine lc_enum (K := K) (a := ad' .en) (xs := s2.ends.map oN) (fun i H' => Same H2 H' ∧ H' D = some (.lst (((List.range i).filter sel).map fun n => V.int (n : Nat)))) ⟨same_new hD _, upd_same⟩ (fun i H' _ h => SqL.of (h.1 _ _ en2)) ?_ ?_
      · rintro i x T H3 hi ⟨S3, d3⟩ hT
        rw [List.getElem?_map] at hi
        obtain ⟨o, ho, rfl⟩ := Option.map_eq_some_iff.mp hi
        have hi2 : i < s2.ends.length := (List.getElem?_eq_some_iff.mp ho).1
        have eg : s2.ends.getD i none = o := by rw [List.getD_eq_getElem?_getD, ho]; rfl
        have ST := same_new hT (.tup [.int i, oN o])
        have hU := upd_same (H := H3) (a := T) (o := .tup [.int i, oN o])
        generalize upd H3 T (.tup [.int i, oN o]) = H4 at ST hU
        have d4 := ST _ _ d3
        have me4 := ST _ _ (S3 _ _ me2)
        have al : (((List.range i).filter sel).map fun n => V.int (n : Nat)).length ≤ 40 := by
          have a1 := List.length_filter_le sel (List.range i)
          rw [List.length_range] at a1
          rw [List.length_map]
          omega
        try walk_at "go"
        cases o with
        | none =>
          have es : sel i = false := by rw [esel]; dsimp only; rw [eg]
          refine ifF rfl ?_
          refine ifF rfl ?_
          exact ⟨S3.trans ST, by rw [d4, List.range_succ, List.filter_append, List.filter_cons, es]; show _ = some (HO.lst ((_ ++ []).map _)); rw [List.append_nil]⟩
        | some e =>
          have es : sel i = decide (e + s2.k = s2.now) := by rw [esel]; dsimp only; rw [eg]
          refine ifT rfl ?_
          have hU : H4 T = some (.tup [.int i, .int (e : Nat)]) := hU
          show tTest _ ((List.set _ 4 _).set 5 (some (.int (e : Nat)))) H4 _
          try walk_at "go"
          have ed : decide ((fun i j => V.int (i + j)) (e : Int) (s2.k : Int) = V.int (s2.now : Nat)) = decide (e + s2.k = s2.now) := decide_eq_decide.mpr ⟨fun z => by have := V.int.inj z; omega, fun z => by show V.int _ = V.int _; rw [← z]; rfl⟩
          rw [ed]
          cases ec : decide (e + s2.k = s2.now) with
          | true =>
            rw [ec] at es
            refine ifT rfl ?_
            try walk_at "go"
            exact ⟨but_same hD (S3.trans ST) But.upd, by rw [upd_same, List.range_succ, List.filter_append, List.filter_cons, es, List.map_append]; rfl⟩
          | false =>
            rw [ec] at es
            refine ifF rfl ?_
            exact ⟨S3.trans ST, by rw [d4, List.range_succ, List.filter_append, List.filter_cons, es]; show _ = some (HO.lst ((_ ++ []).map _)); rw [List.append_nil]⟩
      · rintro H3 ⟨S3, d3⟩
        rw [List.length_map] at d3
        have me3 := S3 _ _ me2
        have an3 := S3 _ _ an2
        try walk_at "go"
        intro E hE
        have nDE : D ≠ E := fun z => by rw [← z, d3] at hE; cases hE
        obtain ⟨ns, ens⟩ : ∃ ns, ns = (List.range s2.ends.length).filter sel := ⟨_, rfl⟩
        rw [← ens] at d3
        have nlt : ∀ n ∈ ns, n < s2.ans.length := fun n hn => by
          rw [ens] at hn
          have := List.mem_range.mp (List.mem_filter.mp hn).1
          rw [iv2.wf.la, ← iv2.wf.le]
          exact this
        have nl : ns.length ≤ 40 := by
          have a1 := List.length_filter_le sel (List.range s2.ends.length)
          rw [List.length_range, ← ens] at a1
          omega
        refine lc_list (K := K) (a := D) (xs := ns.map fun n => V.int (n : Nat)) (fun i H' => Same H3 H' ∧ ∃ ts : List (Addr × Nat × Option Int), H' E = some (.lst (ts.map fun x => V.ref x.1)) ∧ ts.map (fun x => x.2) = (ns.take i).map (fun n => (n, s2.ans.getD n none)) ∧ ∀ x ∈ ts, H' x.1 = some (.tup [.int (x.2.1 : Nat), oV x.2.2])) ⟨same_new hE _, [], upd_same, rfl, fun x hx => absurd hx List.not_mem_nil⟩ (fun i H' _ h => SqL.of (h.1 _ _ d3)) ?_ ?_
        · rintro i v H5 hi ⟨S5, ts, t1, t2, t3⟩
          rw [List.getElem?_map] at hi
          obtain ⟨n, hn, rfl⟩ := Option.map_eq_some_iff.mp hi
          have nl2 := nlt n (List.mem_of_getElem? hn)
          have hi2 := (List.getElem?_eq_some_iff.mp hn).1
          have me5 := S5 _ _ me3
          have an5 := S5 _ _ an3
          have ga : atI (s2.ans.map oV) (n : Int) = some (oV (s2.ans.getD n none)) := at_of (j := n) rfl (by rw [List.getElem?_map, List.getD_eq_getElem?_getD, List.getElem?_eq_getElem nl2] <;> rfl)
          have tl : (ts.map fun x => V.ref x.1).length ≤ 40 := by
            have := congrArg List.length t2
            rw [List.length_map, List.length_map, List.length_take] at this
            rw [List.length_map]
            omega
          try walk_at "go"
          intro t ht
          generalize eH6 : upd _ t _ = H6
          have SH6 := newS eH6 ht
          have ot := newO eH6
          have t16 := SH6 _ _ t1
          try walk_at "go"
          have nE : H6 E ≠ none := by rw [t16]; exact fun z => by cases z
          refine ⟨but_same hE (S5.trans SH6) But.upd, ts ++ [(t, n, s2.ans.getD n none)], by rw [upd_same, List.map_append] <;> rfl, by rw [List.map_append, t2, take_snoc hn, List.map_append] <;> rfl, fun x hx => ?_⟩
          have hx6 : H6 x.1 = some (.tup [.int (x.2.1 : Nat), oV x.2.2]) := by
            rcases List.mem_append.mp hx with w | w
            · exact SH6 _ _ (t3 x w)
            · rw [List.mem_singleton.mp w]; exact ot
          rw [upd_ne (ne_of hx6 t16 (fun z => by cases z))]
          exact hx6
        · rintro H5 ⟨S5, ts, t1, t2, t3⟩
          rw [List.length_map, List.take_length] at t2
          try walk_at "go"
          intro a ha
          generalize eH6 : upd _ a _ = H6
          have SH6 := newS eH6 ha
          have oa := newO eH6
          have S6 := (S3.trans S5).trans SH6
          refine q a ad' H6 (F12.trans (Fr.same S6)) (N2.same S6) ⟨ts, oa, ?_, fun x hx => SH6 _ _ (t3 x hx)⟩
          unfold toldS
          rw [t2, ens, esel]
theorem k_Net__beat_all (D : DfMd K (cAt mg "Net") "beat" "Net.beat" s_Net__beat ["self", "lost"] []) (D_Net__want_lost : DnM P w K mg base (cAt mg "Net") 6 "want_lost" ["self", "lost"] (spWLost K (cAt mg "Net"))) (D_Net__go_on : DnM P w K mg base (cAt mg "Net") 17 "go_on" ["self", "lost"] (spGoOn K (cAt mg "Net"))) : DnMd P w K mg base (cAt mg "Net") 18 "beat" ["self", "lost"] [] (spBeat K (cAt mg "Net")) := by
  refine D.ok fun f fd F => okG0A F sc_Net__beat (fun vs H Q E h => ?_) (fun cdv A outer s H vs Q E hr h => ⟨_, (pss_cons (ps_if (pt_cmpR op_notN (pv 1) pe_non (nomark _))
      (pss_one (ps_expr (pe_mG D_Net__want_lost B.Net_.cl (hr.less (by decide)) (pv 0) (pa_cons (pv 1) pa_nil))))
      pss_nil)
    (pss_cons (ps_expr (pe_mG D_Net__go_on B.Net_.cl (hr.less (by decide)) (pv 0) (pa_cons (pe_ifExp (pt_cmpR op_isN (pv 1) pe_non (nomark _)) (pe_tup pa_nil) (pv 1)) pa_nil)))
    (pss_cons (ps_set (i := 2) sc_Net__beat.nd rfl (Or.inl rfl) (kk (K := K) (F := fun K => tFld K _ _) (P := PE _ _) (pe_fld (pv 0) rfl)))
    (pss_cons (ps_setLc (i := 3) (own := [("number", 4), ("end", 5)]) rfl sc_Net__beat.nd rfl rfl (sw_true rfl rfl rfl (by decide +kernel)) (kk (K := K) (F := fun K => iEnum K _) (P := PI _ _ _) (pi_enum (by rfl) B.enumerate_ (pa_cons (pv 2) pa_nil))) (blkOk_by (own := [("number", 4), ("end", 5)]) (N := ["self", "lost", "ends", "some", "number", "end"]) (sc := defScope s_Net__beat) (by decide +kernel)) (fun _ _ _ _ _ => (kk (K := K) (F := fun K => gTup K 2 _) (P := PG _ _) (pg_tup rfl (pgs_cons (pg_name (i := 4) sc_Net__beat.nd rfl (Or.inl rfl)) (pgs_cons (pg_name (i := 5) sc_Net__beat.nd rfl (Or.inl rfl)) pgs_nil))))) (fun _ _ _ _ _ => (pts_one (PW.pt (pw_and (pt_cmpR op_notN (pv 5) pe_non (nomark _)) (pw_and1 (pt_cmpR op_eq (pe_op op_add (pv 5) (kk (K := K) (F := fun K => tFld K _ _) (P := PE _ _) (pe_fld (pv 0) rfl))) (kk (K := K) (F := fun K => tFld K _ _) (P := PE _ _) (pe_fld (pv 0) rfl)) (nomark _))))))) (fun _ _ _ _ _ => (pv 4)))
    (pss_one (ps_ret (pe_callTy (tupOfK (K := K)) (by rfl) B.tuple_ (by decide +kernel) (pa_cons (pe_lc (own := [("number", 4)]) (g := gName 4) (tt := tYes) rfl sc_Net__beat.nd (kk (K := K) (F := fun K => iList K _) (P := PI _ _ _) (pi_list (pv 3))) (blkOk_by (own := [("number", 4)]) (N := ["self", "lost", "ends", "some", "number", "end"]) (sc := defScope s_Net__beat) (by decide +kernel)) (fun _ _ _ _ _ => (pg_name (i := 4) sc_Net__beat.nd rfl (Or.inl rfl))) (fun _ _ _ _ _ => pts_nil) (fun _ _ _ _ _ => (pe_tup (pa_cons (pv 4) (pa_cons (pe_ix (kk (K := K) (F := rIxL) (P := IxR _) ix_list) (kk (K := K) (F := fun K => tFld K _ _) (P := PE _ _) (pe_fld (pv 0) rfl)) (pv 4) (fun _ _ => rfl)) pa_nil))))) pa_nil)))))))), ?_⟩)
  · obtain ⟨ad, st, v, ls, rfl, _⟩ := h; rfl
  · obtain ⟨ad, st, v, ls, rfl, N, iv, hv, hls, hnow, q⟩ := h
    obtain ⟨cl0, n1, n2, n3, n4, n5, n6, n7, n8, n9, n10, n11⟩ := netNo B
    obtain ⟨dx, me⟩ := N.top
    have hk := iv.wf.k4
    rcases hv with ⟨rfl, els⟩ | ⟨lo, rfl, hlo, hp⟩
    · try walk_at "go"
      intro p hp
      generalize eH1 : upd _ p _ = H1
      have SH1 := newS eH1 hp
      have op := newO eH1
      have lo1 : LsAt H1 p ls := ⟨[], op, by rw [els]; exact ⟨rfl, fun j t p h => by simp at h⟩⟩
      have N1 := N.same SH1
      try walk_at "go"
      intro ad' H2 F2 N2
      obtain ⟨s2, es2⟩ : ∃ s2, s2 = goS st ls := ⟨_, rfl⟩
      have iv2 : Iv s2 := by rw [es2]; exact iv.go ls
      rw [← es2] at N2 q
      have e0 : ad' .me = ad .me := F2.me
      obtain ⟨dx2, me2⟩ := N2.top
      rw [e0] at me2
      have en2 := N2.en_
      have an2 := N2.an_
      have F12 := (Fr.same SH1).trans F2
      have e40 : s2.ends.length ≤ 40 := by rw [iv2.wf.le]; exact iv2.wf.n40
      obtain ⟨sel, esel⟩ : ∃ sel : Nat → Bool, sel = fun n => match s2.ends.getD n none with | none => false | some e => decide (e + s2.k = s2.now) := ⟨_, rfl⟩
      try walk_at "go"
      intro D hD
      refine lc_enum (K := K) (a := ad' .en) (xs := s2.ends.map oN) (fun i H' => Same H2 H' ∧ H' D = some (.lst (((List.range i).filter sel).map fun n => V.int (n : Nat)))) ⟨same_new hD _, upd_same⟩ (fun i H' _ h => SqL.of (h.1 _ _ en2)) ?_ ?_
      · rintro i x T H3 hi ⟨S3, d3⟩ hT
        rw [List.getElem?_map] at hi
        obtain ⟨o, ho, rfl⟩ := Option.map_eq_some_iff.mp hi
        have hi2 : i < s2.ends.length := (List.getElem?_eq_some_iff.mp ho).1
        have eg : s2.ends.getD i none = o := by rw [List.getD_eq_getElem?_getD, ho]; rfl
        have ST := same_new hT (.tup [.int i, oN o])
        have hU := upd_same (H := H3) (a := T) (o := .tup [.int i, oN o])
        generalize upd H3 T (.tup [.int i, oN o]) = H4 at ST hU
        have d4 := ST _ _ d3
        have me4 := ST _ _ (S3 _ _ me2)
        have al : (((List.range i).filter sel).map fun n => V.int (n : Nat)).length ≤ 40 := by
          have a1 := List.length_filter_le sel (List.range i)
          rw [List.length_range] at a1
          rw [List.length_map]
          omega
        try walk_at "go"
        cases o with
        | none =>
          have es : sel i = false := by rw [esel]; dsimp only; rw [eg]
          refine ifF rfl ?_
          refine ifF rfl ?_
          exact ⟨S3.trans ST, by rw [d4, List.range_succ, List.filter_append, List.filter_cons, es]; show _ = some (HO.lst ((_ ++ []).map _)); rw [List.append_nil]⟩
        | some e =>
          have es : sel i = decide (e + s2.k = s2.now) := by rw [esel]; dsimp only; rw [eg]
          refine ifT rfl ?_
          have hU : H4 T = some (.tup [.int i, .int (e : Nat)]) := hU
          show tTest _ ((List.set _ 4 _).set 5 (some (.int (e : Nat)))) H4 _
          try walk_at "go"
          have ed : decide ((fun i j => V.int (i + j)) (e : Int) (s2.k : Int) = V.int (s2.now : Nat)) = decide (e + s2.k = s2.now) := decide_eq_decide.mpr ⟨fun z => by have := V.int.inj z; omega, fun z => by show V.int _ = V.int _; rw [← z]; rfl⟩
          rw [ed]
          cases ec : decide (e + s2.k = s2.now) with
          | true =>
            rw [ec] at es
            refine ifT rfl ?_
            try walk_at "go"
            exact ⟨but_same hD (S3.trans ST) But.upd, by rw [upd_same, List.range_succ, List.filter_append, List.filter_cons, es, List.map_append]; rfl⟩
          | false =>
            rw [ec] at es
            refine ifF rfl ?_
            exact ⟨S3.trans ST, by rw [d4, List.range_succ, List.filter_append, List.filter_cons, es]; show _ = some (HO.lst ((_ ++ []).map _)); rw [List.append_nil]⟩
      · rintro H3 ⟨S3, d3⟩
        rw [List.length_map] at d3
        have me3 := S3 _ _ me2
        have an3 := S3 _ _ an2
        try walk_at "go"
        intro E hE
        have nDE : D ≠ E := fun z => by rw [← z, d3] at hE; cases hE
        obtain ⟨ns, ens⟩ : ∃ ns, ns = (List.range s2.ends.length).filter sel := ⟨_, rfl⟩
        rw [← ens] at d3
        have nlt : ∀ n ∈ ns, n < s2.ans.length := fun n hn => by
          rw [ens] at hn
          have := List.mem_range.mp (List.mem_filter.mp hn).1
          rw [iv2.wf.la, ← iv2.wf.le]
          exact this
        have nl : ns.length ≤ 40 := by
          have a1 := List.length_filter_le sel (List.range s2.ends.length)
          rw [List.length_range, ← ens] at a1
          omega
        refine lc_list (K := K) (a := D) (xs := ns.map fun n => V.int (n : Nat)) (fun i H' => Same H3 H' ∧ ∃ ts : List (Addr × Nat × Option Int), H' E = some (.lst (ts.map fun x => V.ref x.1)) ∧ ts.map (fun x => x.2) = (ns.take i).map (fun n => (n, s2.ans.getD n none)) ∧ ∀ x ∈ ts, H' x.1 = some (.tup [.int (x.2.1 : Nat), oV x.2.2])) ⟨same_new hE _, [], upd_same, rfl, fun x hx => absurd hx List.not_mem_nil⟩ (fun i H' _ h => SqL.of (h.1 _ _ d3)) ?_ ?_
        · rintro i v H5 hi ⟨S5, ts, t1, t2, t3⟩
          rw [List.getElem?_map] at hi
          obtain ⟨n, hn, rfl⟩ := Option.map_eq_some_iff.mp hi
          have nl2 := nlt n (List.mem_of_getElem? hn)
          have hi2 := (List.getElem?_eq_some_iff.mp hn).1
          have me5 := S5 _ _ me3
          have an5 := S5 _ _ an3
          have ga : atI (s2.ans.map oV) (n : Int) = some (oV (s2.ans.getD n none)) := at_of (j := n) rfl (by rw [List.getElem?_map, List.getD_eq_getElem?_getD, List.getElem?_eq_getElem nl2] <;> rfl)
          have tl : (ts.map fun x => V.ref x.1).length ≤ 40 := by
            have := congrArg List.length t2
            rw [List.length_map, List.length_map, List.length_take] at this
            rw [List.length_map]
            omega
          try walk_at "go"
          intro t ht
          generalize eH6 : upd _ t _ = H6
          have SH6 := newS eH6 ht
          have ot := newO eH6
          have t16 := SH6 _ _ t1
          try walk_at "go"
          have nE : H6 E ≠ none := by rw [t16]; exact fun z => by cases z
          refine ⟨but_same hE (S5.trans SH6) But.upd, ts ++ [(t, n, s2.ans.getD n none)], by rw [upd_same, List.map_append] <;> rfl, by rw [List.map_append, t2, take_snoc hn, List.map_append] <;> rfl, fun x hx => ?_⟩
          have hx6 : H6 x.1 = some (.tup [.int (x.2.1 : Nat), oV x.2.2]) := by
            rcases List.mem_append.mp hx with w | w
            · exact SH6 _ _ (t3 x w)
            · rw [List.mem_singleton.mp w]; exact ot
          rw [upd_ne (ne_of hx6 t16 (fun z => by cases z))]
          exact hx6
        · rintro H5 ⟨S5, ts, t1, t2, t3⟩
          rw [List.length_map, List.take_length] at t2
          try walk_at "go"
          intro a ha
          generalize eH6 : upd _ a _ = H6
          have SH6 := newS eH6 ha
          have oa := newO eH6
          have S6 := (S3.trans S5).trans SH6
          refine q a ad' H6 (F12.trans (Fr.same S6)) (N2.same S6) ⟨ts, oa, ?_, fun x hx => SH6 _ _ (t3 x hx)⟩
          unfold toldS
          rw [t2, ens, esel]
    · try walk_at "go"
      intro H1 SH1
      have lo1 := hlo.tk (TK.same SH1)
      have N1 := N.same SH1
      try walk_at "go"
      intro ad' H2 F2 N2
      obtain ⟨s2, es2⟩ : ∃ s2, s2 = goS st ls := ⟨_, rfl⟩
      have iv2 : Iv s2 := by rw [es2]; exact iv.go ls
      rw [← es2] at N2 q
      have e0 : ad' .me = ad .me := F2.me
      obtain ⟨dx2, me2⟩ := N2.top
      rw [e0] at me2
      have en2 := N2.en_
      have an2 := N2.an_
      have F12 := (Fr.same SH1).trans F2
      have e40 : s2.ends.length ≤ 40 := by rw [iv2.wf.le]; exact iv2.wf.n40
      obtain ⟨sel, esel⟩ : ∃ sel : Nat → Bool, sel = fun n => match s2.ends.getD n none with | none => false | some e => decide (e + s2.k = s2.now) := ⟨_, rfl⟩
      try walk_at "go"
      intro D hD
      refine lc_enum (K := K) (a := ad' .en) (xs := s2.ends.map oN) (fun i H' => Same H2 H' ∧ H' D = some (.lst (((List.range i).filter sel).map fun n => V.int (n : Nat)))) ⟨same_new hD _, upd_same⟩ (fun i H' _ h => SqL.of (h.1 _ _ en2)) ?_ ?_
      · rintro i x T H3 hi ⟨S3, d3⟩ hT
        rw [List.getElem?_map] at hi
        obtain ⟨o, ho, rfl⟩ := Option.map_eq_some_iff.mp hi
        have hi2 : i < s2.ends.length := (List.getElem?_eq_some_iff.mp ho).1
        have eg : s2.ends.getD i none = o := by rw [List.getD_eq_getElem?_getD, ho]; rfl
        have ST := same_new hT (.tup [.int i, oN o])
        have hU := upd_same (H := H3) (a := T) (o := .tup [.int i, oN o])
        generalize upd H3 T (.tup [.int i, oN o]) = H4 at ST hU
        have d4 := ST _ _ d3
        have me4 := ST _ _ (S3 _ _ me2)
        have al : (((List.range i).filter sel).map fun n => V.int (n : Nat)).length ≤ 40 := by
          have a1 := List.length_filter_le sel (List.range i)
          rw [List.length_range] at a1
          rw [List.length_map]
          omega
        try walk_at "go"
        cases o with
        | none =>
          have es : sel i = false := by rw [esel]; dsimp only; rw [eg]
          refine ifF rfl ?_
          refine ifF rfl ?_
          exact ⟨S3.trans ST, by rw [d4, List.range_succ, List.filter_append, List.filter_cons, es]; show _ = some (HO.lst ((_ ++ []).map _)); rw [List.append_nil]⟩
        | some e =>
          have es : sel i = decide (e + s2.k = s2.now) := by rw [esel]; dsimp only; rw [eg]
          refine ifT rfl ?_
          have hU : H4 T = some (.tup [.int i, .int (e : Nat)]) := hU
          show tTest _ ((List.set _ 4 _).set 5 (some (.int (e : Nat)))) H4 _
          try walk_at "go"
          have ed : decide ((fun i j => V.int (i + j)) (e : Int) (s2.k : Int) = V.int (s2.now : Nat)) = decide (e + s2.k = s2.now) := decide_eq_decide.mpr ⟨fun z => by have := V.int.inj z; omega, fun z => by show V.int _ = V.int _; rw [← z]; rfl⟩
          rw [ed]
          cases ec : decide (e + s2.k = s2.now) with
          | true =>
            rw [ec] at es
            refine ifT rfl ?_
            try walk_at "go"
            exact ⟨but_same hD (S3.trans ST) But.upd, by rw [upd_same, List.range_succ, List.filter_append, List.filter_cons, es, List.map_append]; rfl⟩
          | false =>
            rw [ec] at es
            refine ifF rfl ?_
            exact ⟨S3.trans ST, by rw [d4, List.range_succ, List.filter_append, List.filter_cons, es]; show _ = some (HO.lst ((_ ++ []).map _)); rw [List.append_nil]⟩
      · rintro H3 ⟨S3, d3⟩
        rw [List.length_map] at d3
        have me3 := S3 _ _ me2
        have an3 := S3 _ _ an2
        try walk_at "go"
        intro E hE
        have nDE : D ≠ E := fun z => by rw [← z, d3] at hE; cases hE
        obtain ⟨ns, ens⟩ : ∃ ns, ns = (List.range s2.ends.length).filter sel := ⟨_, rfl⟩
        rw [← ens] at d3
        have nlt : ∀ n ∈ ns, n < s2.ans.length := fun n hn => by
          rw [ens] at hn
          have := List.mem_range.mp (List.mem_filter.mp hn).1
          rw [iv2.wf.la, ← iv2.wf.le]
          exact this
        have nl : ns.length ≤ 40 := by
          have a1 := List.length_filter_le sel (List.range s2.ends.length)
          rw [List.length_range, ← ens] at a1
          omega
        refine lc_list (K := K) (a := D) (xs := ns.map fun n => V.int (n : Nat)) (fun i H' => Same H3 H' ∧ ∃ ts : List (Addr × Nat × Option Int), H' E = some (.lst (ts.map fun x => V.ref x.1)) ∧ ts.map (fun x => x.2) = (ns.take i).map (fun n => (n, s2.ans.getD n none)) ∧ ∀ x ∈ ts, H' x.1 = some (.tup [.int (x.2.1 : Nat), oV x.2.2])) ⟨same_new hE _, [], upd_same, rfl, fun x hx => absurd hx List.not_mem_nil⟩ (fun i H' _ h => SqL.of (h.1 _ _ d3)) ?_ ?_
        · rintro i v H5 hi ⟨S5, ts, t1, t2, t3⟩
          rw [List.getElem?_map] at hi
          obtain ⟨n, hn, rfl⟩ := Option.map_eq_some_iff.mp hi
          have nl2 := nlt n (List.mem_of_getElem? hn)
          have hi2 := (List.getElem?_eq_some_iff.mp hn).1
          have me5 := S5 _ _ me3
          have an5 := S5 _ _ an3
          have ga : atI (s2.ans.map oV) (n : Int) = some (oV (s2.ans.getD n none)) := at_of (j := n) rfl (by rw [List.getElem?_map, List.getD_eq_getElem?_getD, List.getElem?_eq_getElem nl2] <;> rfl)
          have tl : (ts.map fun x => V.ref x.1).length ≤ 40 := by
            have := congrArg List.length t2
            rw [List.length_map, List.length_map, List.length_take] at this
            rw [List.length_map]
            omega
          try walk_at "go"
          intro t ht
          generalize eH6 : upd _ t _ = H6
          have SH6 := newS eH6 ht
          have ot := newO eH6
          have t16 := SH6 _ _ t1
          try walk_at "go"
          have nE : H6 E ≠ none := by rw [t16]; exact fun z => by cases z
          refine ⟨but_same hE (S5.trans SH6) But.upd, ts ++ [(t, n, s2.ans.getD n none)], by rw [upd_same, List.map_append] <;> rfl, by rw [List.map_append, t2, take_snoc hn, List.map_append] <;> rfl, fun x hx => ?_⟩
          have hx6 : H6 x.1 = some (.tup [.int (x.2.1 : Nat), oV x.2.2]) := by
            rcases List.mem_append.mp hx with w | w
            · exact SH6 _ _ (t3 x w)
            · rw [List.mem_singleton.mp w]; exact ot
          rw [upd_ne (ne_of hx6 t16 (fun z => by cases z))]
          exact hx6
        · rintro H5 ⟨S5, ts, t1, t2, t3⟩
          rw [List.length_map, List.take_length] at t2
          try walk_at "go"
          intro a ha
          generalize eH6 : upd _ a _ = H6
          have SH6 := newS eH6 ha
          have oa := newO eH6
          have S6 := (S3.trans S5).trans SH6
          refine q a ad' H6 (F12.trans (Fr.same S6)) (N2.same S6) ⟨ts, oa, ?_, fun x hx => SH6 _ _ (t3 x hx)⟩
          unfold toldS
          rw [t2, ens, esel]
/-! SPLIT -/
omit B in
theorem none_bk {H H' : Hp} {a : Addr} (S : Same H H') (h : H' a = none) : H a = none := by
  cases e : H a with
  | none => rfl
  | some o => rw [S _ _ e] at h; cases h
omit B in
theorem ext_getD {α β : Type} {xs : List α} {n : Nat} (f : α → β) (d : α) (h : xs.length = n) : xs.map f = (List.range n).map fun j => f (xs.getD j d) := by
  subst h
  refine List.ext_getElem (by rw [List.length_map, List.length_map, List.length_range]) fun i h1 h2 => ?_
  rw [List.length_map] at h1
  rw [List.getElem_map, List.getElem_map, List.getElem_range, List.getD_eq_getElem?_getD, List.getElem?_eq_getElem h1]
  rfl
def rkN : Nm → Nat
  | .me => 9 | .am => 0 | .rw => 1 | .lv _ => 2 | .ln _ _ => 2 | .as => 3 | .an => 4 | .en => 5 | .od => 6 | .pa => 7
omit B in
theorem inj_rk {ad : Nm → Addr} {k : Nat} {p : Addr} (G : Nat → Hp) (me : ad .me = p) (h0 : ∀ n, n.ok k → n ≠ .me → ad n ≠ p) (mono : ∀ r a, G r a ≠ none → G (r + 1) a ≠ none) (fr : ∀ n, n.ok k → n ≠ .me → G (rkN n) (ad n) = none) (so : ∀ n, n.ok k → n ≠ .me → G (rkN n + 1) (ad n) ≠ none) (ll : ∀ m n, rkN m = 2 → rkN n = 2 → m.ok k → n.ok k → ad m = ad n → m = n) : ∀ m n, m.ok k → n.ok k → ad m = ad n → m = n := by
  have up : ∀ d r a, G r a ≠ none → G (r + d) a ≠ none := fun d => by
    induction d with
    | zero => exact fun r a h => h
    | succ d ih => exact fun r a h => mono _ _ (ih r a h)
  have lt : ∀ m n, m.ok k → n.ok k → m ≠ .me → n ≠ .me → rkN m < rkN n → ad m ≠ ad n := fun m n h1 h2 h3 h4 hl z => by
    have a := up (rkN n - (rkN m + 1)) _ _ (so m h1 h3)
    rw [show rkN m + 1 + (rkN n - (rkN m + 1)) = rkN n by omega, z, fr n h2 h4] at a
    exact a rfl
  intro m n h1 h2 e
  by_cases c1 : m = .me
  · by_cases c2 : n = .me
    · rw [c1, c2]
    · rw [c1, me] at e
      exact absurd e.symm (h0 n h2 c2)
  · by_cases c2 : n = .me
    · rw [c2, me] at e
      exact absurd e (h0 m h1 c1)
    · rcases Nat.lt_trichotomy (rkN m) (rkN n) with g | g | g
      · exact absurd e (lt m n h1 h2 c1 c2 g)
      · by_cases q : rkN m = 2
        · exact ll m n q (g ▸ q) h1 h2 e
        · cases m <;> cases n <;> first | rfl | exact absurd rfl c1 | exact absurd rfl c2 | exact absurd (show (2 : Nat) = 2 from rfl) q | (simp [rkN] at g)
      · exact absurd e.symm (lt n m h2 h1 c2 c1 g)
/-- levels of lines, made anew -/
def LvsAt (H0 H : Hp) (k : Nat) (D : Addr) (xs : List (Addr × List Addr)) : Prop := xs.Pairwise (fun x y => x.1 ≠ y.1 ∧ ∀ a ∈ x.2, a ∉ y.2) ∧ ∀ x ∈ xs, H x.1 = some (.lst (x.2.map V.ref)) ∧ x.2.length = 2 ^ k ∧ x.2.Nodup ∧ H0 x.1 = none ∧ x.1 ≠ D ∧ ∀ y ∈ x.2, H y = some (.lst []) ∧ H0 y = none ∧ y ≠ D
def spNetIn (K : PySem.W.Frag) (C : Addr) : Sp := fun vs H Q _ => ∃ (p dx bd : Addr) (am : List Int) (k room kept : Nat), vs = [.ref p, .int (k : Nat), .ref bd, .int (room : Nat), .int (kept : Nat)] ∧ H p = some (.ins C dx []) ∧ BoardAt H bd am ∧ k ≤ 4 ∧ 1 ≤ room ∧ room ≤ 6 ∧ kept ≤ 6 ∧ ∀ ad H', ad .me = p → But p H H' → (∀ n, n.ok k → n ≠ .me → H (ad n) = none) → NetAt C H' ad (netS k am room kept) → Q .non H'
theorem k_Net____init__ (D : DfI K (cAt mg "Net") "Net.__init__" s_Net____init__ ["self", "k", "board", "room", "kept"]) (D_want_net : DnD P w K mg base 3 "want_net" ["k", "deepest"] [.int 4] spWantNet) (D_want_within : Dn P w K mg base 3 "want_within" ["thing", "least", "most"] spWantWithin) (D_want_board : Dn P w K mg base 3 "want_board" ["board"] (spWantBoard K)) : DnI P w K mg base (cAt mg "Net") 7 ["self", "k", "board", "room", "kept"] (spNetIn K (cAt mg "Net")) := by
  refine D.ok fun f fd F => okG0 F sc_Net____init__ (fun vs H Q E h => ?_) (fun cdv A outer s H vs Q E hr h => ⟨_, (pss_cons (ps_expr (pe_cDd D_want_net (hr.less (by decide)) rfl (pa_cons (pv 1) pa_nil)))
    (pss_cons (ps_expr (pe_cD D_want_within (hr.less (by decide)) rfl (pa_cons (pv 3) (pa_cons pe_int (pa_cons (pe_glob (v := .int (6)) (u := .int (6) B.MOST_ROOM_.choose) (by rfl) B.MOST_ROOM_.choose_spec ⟨_, rfl⟩) pa_nil)))))
    (pss_cons (ps_expr (pe_cD D_want_within (hr.less (by decide)) rfl (pa_cons (pv 4) (pa_cons pe_int (pa_cons (pe_glob (v := .int (6)) (u := .int (6) B.MOST_KEPT_.choose) (by rfl) B.MOST_KEPT_.choose_spec ⟨_, rfl⟩) pa_nil)))))
    (pss_cons (ps_expr (pe_cD D_want_board (hr.less (by decide)) rfl (pa_cons (pv 2) pa_nil)))
    (pss_cons (kk (K := K) (F := fun K => sFld K _ _ _) (P := PS _ _) (ps_fld (pv 0) (pv 1) rfl))
    (pss_cons (kk (K := K) (F := fun K => sFld K _ _ _) (P := PS _ _) (ps_fld (pv 0) (pe_callTy (lstOfK (K := K)) (by rfl) B.list_ (by decide +kernel) (pa_cons (pv 2) pa_nil)) rfl))
    (pss_cons (kk (K := K) (F := fun K => sFld K _ _ _) (P := PS _ _) (ps_fld (pv 0) (pv 3) rfl))
    (pss_cons (kk (K := K) (F := fun K => sFld K _ _ _) (P := PS _ _) (ps_fld (pv 0) (pv 4) rfl))
    (pss_cons (kk (K := K) (F := fun K => sFld K _ _ _) (P := PS _ _) (ps_fld (pv 0) (pe_lc (own := [("level", 5)]) (g := gName 5) (tt := tYes) rfl sc_Net____init__.nd (pi_range1 (by rfl) B.range_ (pa_cons (pe_op op_add (pv 1) pe_int) pa_nil)) (blkOk_by (own := [("level", 5)]) (N := ["self", "k", "board", "room", "kept", "level", "line"]) (sc := defScope s_Net____init__) (by decide +kernel)) (fun _ _ _ _ _ => (pg_name (i := 5) sc_Net____init__.nd rfl (Or.inl rfl))) (fun _ _ _ _ _ => pts_nil) (fun _ _ _ _ _ => (pe_lc (own := [("line", 6)]) (g := gName 6) (tt := tYes) rfl sc_Net____init__.nd (pi_range1 (by rfl) B.range_ (pa_cons (pe_op op_shlW pe_int (pv 1)) pa_nil)) (blkOk_nest (own := [("line", 6)]) (N := ["self", "k", "board", "room", "kept", "level", "line"]) rfl (by decide +kernel)) (fun _ _ _ _ _ => (pg_name (i := 6) sc_Net____init__.nd rfl (Or.inl rfl))) (fun _ _ _ _ _ => pts_nil) (fun _ _ _ _ _ => (pe_lst pa_nil))))) rfl))
    (pss_cons (kk (K := K) (F := fun K => sFld K _ _ _) (P := PS _ _) (ps_fld (pv 0) (pe_lst pa_nil) rfl))
    (pss_cons (kk (K := K) (F := fun K => sFld K _ _ _) (P := PS _ _) (ps_fld (pv 0) (pe_lst pa_nil) rfl))
    (pss_cons (kk (K := K) (F := fun K => sFld K _ _ _) (P := PS _ _) (ps_fld (pv 0) (pe_lst pa_nil) rfl))
    (pss_cons (kk (K := K) (F := fun K => sFld K _ _ _) (P := PS _ _) (ps_fld (pv 0) (pe_lst pa_nil) rfl))
    (pss_cons (kk (K := K) (F := fun K => sFld K _ _ _) (P := PS _ _) (ps_fld (pv 0) (pe_lst pa_nil) rfl))
    (pss_one (kk (K := K) (F := fun K => sFld K _ _ _) (P := PS _ _) (ps_fld (pv 0) pe_int rfl))))))))))))))))), ?_⟩)
  · obtain ⟨p, dx, bd, am, k, room, kept, rfl, _⟩ := h; rfl
  · obtain ⟨p, dx, bd, am, k, room, kept, rfl, hp, hb, hk, hr1, hr2, hkp, q⟩ := h
    obtain ⟨cl0, n1, n2, n3, n4, n5, n6, n7, n8, n9, n10, n11⟩ := netNo B
    have l0 : ([] : List (Str × V)).length < 1000 := by decide
    have kS : ∀ (f : Str) (v : V) (fs : List (Str × V)) (n : Nat), fs.length ≤ n → (putF f v fs).length ≤ n + 1 := fun f v fs n h => by have := length_putF f v fs; omega
    try walk_at "go"
    intro H1 S1
    have m1 := S1 _ _ hp
    have hb1 := S1 _ _ hb.1
    have l1 : (putF "depth" (.int (k : Nat)) [] : List (Str × V)).length < 1000 := Nat.lt_of_le_of_lt (kS _ _ _ 0 (Nat.le_refl 0)) (by decide)
    try walk_at "go"
    generalize e2 : upd H1 p _ = H2
    have e2 : upd H1 p (.ins (cAt mg "Net") dx [("depth", .int (k : Nat))]) = H2 := e2
    have m2 : H2 p = some (.ins (cAt mg "Net") dx [("depth", .int (k : Nat))]) := e2 ▸ upd_same
    have b2 : But p H1 H2 := e2 ▸ But.upd
    have hb2 := b2 _ _ (ne_of hb1 m1 (fun z => by cases z)) hb1
    try walk_at "go"
    intro A hA
    generalize eH3 : upd _ A _ = H3
    have SH3 := newS eH3 hA
    have oA := newO eH3
    have m3 := SH3 _ _ m2
    have l2 : (putF "amounts" (.ref A) [("depth", .int (k : Nat))] : List (Str × V)).length < 1000 := Nat.lt_of_le_of_lt (kS _ _ _ 1 (Nat.le_refl 1)) (by decide)
    try walk_at "go"
    generalize e4 : upd H3 p _ = H4
    have e4 : upd H3 p (.ins (cAt mg "Net") dx [("depth", .int (k : Nat)), ("amounts", .ref A)]) = H4 := e4
    have m4 : H4 p = some (.ins (cAt mg "Net") dx [("depth", .int (k : Nat)), ("amounts", .ref A)]) := e4 ▸ upd_same
    have b4 : But p H3 H4 := e4 ▸ But.upd
    have l3 : (putF "room" (.int (room : Nat)) [("depth", .int (k : Nat)), ("amounts", .ref A)] : List (Str × V)).length < 1000 := Nat.lt_of_le_of_lt (kS _ _ _ 2 (Nat.le_refl 2)) (by decide)
    try walk_at "go"
    generalize e5 : upd H4 p _ = H5
    have e5 : upd H4 p (.ins (cAt mg "Net") dx [("depth", .int (k : Nat)), ("amounts", .ref A), ("room", .int (room : Nat))]) = H5 := e5
    have m5 : H5 p = some (.ins (cAt mg "Net") dx [("depth", .int (k : Nat)), ("amounts", .ref A), ("room", .int (room : Nat))]) := e5 ▸ upd_same
    have b5 : But p H4 H5 := e5 ▸ But.upd
    have l4 : (putF "kept" (.int (kept : Nat)) [("depth", .int (k : Nat)), ("amounts", .ref A), ("room", .int (room : Nat))] : List (Str × V)).length < 1000 := Nat.lt_of_le_of_lt (kS _ _ _ 3 (Nat.le_refl 3)) (by decide)
    try walk_at "go"
    generalize e6 : upd H5 p _ = H6
    have e6 : upd H5 p (.ins (cAt mg "Net") dx [("depth", .int (k : Nat)), ("amounts", .ref A), ("room", .int (room : Nat)), ("kept", .int (kept : Nat))]) = H6 := e6
    have m6 : H6 p = some (.ins (cAt mg "Net") dx [("depth", .int (k : Nat)), ("amounts", .ref A), ("room", .int (room : Nat)), ("kept", .int (kept : Nat))]) := e6 ▸ upd_same
    have b6 : But p H5 H6 := e6 ▸ But.upd
    have eL : (1 : Int) * 2 ^ ((k : Nat) : Int).toNat = ((2 ^ k : Nat) : Int) := by rw [Int.one_mul, Int.toNat_natCast]; push_cast; rfl
    have e16 : 2 ^ k ≤ 16 := Nat.pow_le_pow_right (n := 2) (by decide) hk
    have sh : CShl 1 (k : Int) := shl_ok (by omega)
    try walk_at "go"
    intro D hD
    rw [show ((k : Int) + 1).toNat = k + 1 by omega]
    refine lc_range (lo := 0) (n := k + 1) (fun i H' => Same H6 H' ∧ ∃ xs : List (Addr × List Addr), H' D = some (.lst (xs.map fun x => V.ref x.1)) ∧ xs.length = i ∧ LvsAt H6 H' k D xs) ⟨same_new hD _, [], upd_same, rfl, .nil, fun x hx => absurd hx List.not_mem_nil⟩ ?_ ?_
    · rintro i H7 hi ⟨S7, xs, x1, x2, x3, x4⟩
      try walk_at "go"
      rw [eL, Int.toNat_natCast]
      intro E hE
      refine lc_range (lo := 0) (n := 2 ^ k) (fun j H' => Same H7 H' ∧ ∃ ls : List Addr, H' E = some (.lst (ls.map V.ref)) ∧ ls.length = j ∧ ls.Nodup ∧ ∀ y ∈ ls, H' y = some (.lst []) ∧ H7 y = none ∧ y ≠ E) ⟨same_new hE _, [], upd_same, rfl, .nil, fun x hx => absurd hx List.not_mem_nil⟩ ?_ ?_
      · rintro j H8 hj ⟨S8, ls, l1, l2, l3, l4⟩
        have ll : (ls.map V.ref).length ≤ 16 := by rw [List.length_map]; omega
        try walk_at "go"
        intro y hy
        generalize eH9 : upd _ y _ = H9
        have SH9 := newS eH9 hy
        have oy := newO eH9
        have l19 := SH9 _ _ l1
        have y7 : H7 y = none := none_bk S8 hy
        have yE : y ≠ E := fun z => by rw [z, l1] at hy; cases hy
        have yn : y ∉ ls := fun z => by rw [(l4 y z).1] at hy; cases hy
        try walk_at "go"
        have l1' : H9 E = some (.lst (ls.map V.ref)) := l19
        refine ⟨but_same hE (S8.trans SH9) But.upd, ls ++ [y], by rw [upd_same, List.map_append] <;> rfl, by rw [List.length_append, l2] <;> rfl, List.nodup_append.mpr ⟨l3, List.nodup_cons.mpr ⟨List.not_mem_nil, .nil⟩, fun a ha b hb z => yn (by rw [← List.mem_singleton.mp hb, ← z]; exact ha)⟩, fun z hz => ?_⟩
        rcases List.mem_append.mp hz with g | g
        · obtain ⟨g1, g2, g3⟩ := l4 z g
          exact ⟨by rw [upd_ne g3]; exact SH9 _ _ g1, g2, g3⟩
        · rw [List.mem_singleton.mp g]
          exact ⟨by rw [upd_ne yE]; exact oy, y7, yE⟩
      · rintro H8 ⟨S8, ls, l1, l2, l3, l4⟩
        have ll : (xs.map fun x => V.ref x.1).length ≤ 16 := by rw [List.length_map]; omega
        have x18 := S8 _ _ x1
        try walk_at "go"
        have E6 : H6 E = none := none_bk S7 hE
        have ED : E ≠ D := fun z => by rw [z, x1] at hE; cases hE
        refine ⟨but_same hD (S7.trans S8) But.upd, xs ++ [(E, ls)], by rw [upd_same, List.map_append] <;> rfl, by rw [List.length_append, x2] <;> rfl, List.pairwise_append.mpr ⟨x3, List.pairwise_singleton _ _, fun a ha b hb => ?_⟩, fun x hx => ?_⟩
        · rw [List.mem_singleton.mp hb]
          obtain ⟨g1, g2, g3, g4, g5, g6⟩ := x4 a ha
          refine ⟨fun z => ?_, fun c hc z => ?_⟩
          · have : a.1 = E := z
            rw [this, hE] at g1; cases g1
          · have := (l4 c z).2.1
            rw [(g6 c hc).1] at this; cases this
        · rcases List.mem_append.mp hx with g | g
          · obtain ⟨g1, g2, g3, g4, g5, g6⟩ := x4 x g
            refine ⟨by rw [upd_ne g5]; exact S8 _ _ g1, g2, g3, g4, g5, fun y hy => ?_⟩
            obtain ⟨r1, r2, r3⟩ := g6 y hy
            exact ⟨by rw [upd_ne r3]; exact S8 _ _ r1, r2, r3⟩
          · rw [List.mem_singleton.mp g]
            refine ⟨by rw [upd_ne ED]; exact l1, l2, l3, E6, ED, fun y hy => ?_⟩
            obtain ⟨r1, r2, r3⟩ := l4 y hy
            have yD : y ≠ D := fun z => by rw [z, x1] at r2; cases r2
            exact ⟨by rw [upd_ne yD]; exact r1, none_bk S7 r2, yD⟩
    rintro H7 ⟨S7, xs, x1, x2, x3, x4⟩
    have m7 := S7 _ _ m6
    have l5 : (putF "rows" (.ref D) [("depth", .int (k : Nat)), ("amounts", .ref A), ("room", .int (room : Nat)), ("kept", .int (kept : Nat))] : List (Str × V)).length < 1000 := Nat.lt_of_le_of_lt (kS _ _ _ 4 (Nat.le_refl 4)) (by decide)
    try walk_at "go"
    generalize e9 : upd H7 p _ = H9
    have e9 : upd H7 p (.ins (cAt mg "Net") dx [("depth", .int (k : Nat)), ("amounts", .ref A), ("room", .int (room : Nat)), ("kept", .int (kept : Nat)), ("rows", .ref D)]) = H9 := e9
    have m9 : H9 p = some (.ins (cAt mg "Net") dx [("depth", .int (k : Nat)), ("amounts", .ref A), ("room", .int (room : Nat)), ("kept", .int (kept : Nat)), ("rows", .ref D)]) := e9 ▸ upd_same
    have b9 : But p H7 H9 := e9 ▸ But.upd

    intro as has
    generalize eH10 : upd _ as _ = H10
    have SH10 := newS eH10 has
    have oas := newO eH10
    have m10 := SH10 _ _ m9
    have l6 : (putF "asked" (.ref as) [("depth", .int (k : Nat)), ("amounts", .ref A), ("room", .int (room : Nat)), ("kept", .int (kept : Nat)), ("rows", .ref D)] : List (Str × V)).length < 1000 := Nat.lt_of_le_of_lt (kS _ _ _ 5 (Nat.le_refl 5)) (by decide)
    try walk_at "go"
    generalize e11 : upd H10 p _ = H11
    have e11 : upd H10 p (.ins (cAt mg "Net") dx [("depth", .int (k : Nat)), ("amounts", .ref A), ("room", .int (room : Nat)), ("kept", .int (kept : Nat)), ("rows", .ref D), ("asked", .ref as)]) = H11 := e11
    have m11 : H11 p = some (.ins (cAt mg "Net") dx [("depth", .int (k : Nat)), ("amounts", .ref A), ("room", .int (room : Nat)), ("kept", .int (kept : Nat)), ("rows", .ref D), ("asked", .ref as)]) := e11 ▸ upd_same
    have b11 : But p H10 H11 := e11 ▸ But.upd
    intro an han
    generalize eH12 : upd _ an _ = H12
    have SH12 := newS eH12 han
    have oan := newO eH12
    have m12 := SH12 _ _ m11
    have l7 : (putF "answers" (.ref an) [("depth", .int (k : Nat)), ("amounts", .ref A), ("room", .int (room : Nat)), ("kept", .int (kept : Nat)), ("rows", .ref D), ("asked", .ref as)] : List (Str × V)).length < 1000 := Nat.lt_of_le_of_lt (kS _ _ _ 6 (Nat.le_refl 6)) (by decide)
    try walk_at "go"
    generalize e13 : upd H12 p _ = H13
    have e13 : upd H12 p (.ins (cAt mg "Net") dx [("depth", .int (k : Nat)), ("amounts", .ref A), ("room", .int (room : Nat)), ("kept", .int (kept : Nat)), ("rows", .ref D), ("asked", .ref as), ("answers", .ref an)]) = H13 := e13
    have m13 : H13 p = some (.ins (cAt mg "Net") dx [("depth", .int (k : Nat)), ("amounts", .ref A), ("room", .int (room : Nat)), ("kept", .int (kept : Nat)), ("rows", .ref D), ("asked", .ref as), ("answers", .ref an)]) := e13 ▸ upd_same
    have b13 : But p H12 H13 := e13 ▸ But.upd
    intro en hen
    generalize eH14 : upd _ en _ = H14
    have SH14 := newS eH14 hen
    have oen := newO eH14
    have m14 := SH14 _ _ m13
    have l8 : (putF "ends" (.ref en) [("depth", .int (k : Nat)), ("amounts", .ref A), ("room", .int (room : Nat)), ("kept", .int (kept : Nat)), ("rows", .ref D), ("asked", .ref as), ("answers", .ref an)] : List (Str × V)).length < 1000 := Nat.lt_of_le_of_lt (kS _ _ _ 7 (Nat.le_refl 7)) (by decide)
    try walk_at "go"
    generalize e15 : upd H14 p _ = H15
    have e15 : upd H14 p (.ins (cAt mg "Net") dx [("depth", .int (k : Nat)), ("amounts", .ref A), ("room", .int (room : Nat)), ("kept", .int (kept : Nat)), ("rows", .ref D), ("asked", .ref as), ("answers", .ref an), ("ends", .ref en)]) = H15 := e15
    have m15 : H15 p = some (.ins (cAt mg "Net") dx [("depth", .int (k : Nat)), ("amounts", .ref A), ("room", .int (room : Nat)), ("kept", .int (kept : Nat)), ("rows", .ref D), ("asked", .ref as), ("answers", .ref an), ("ends", .ref en)]) := e15 ▸ upd_same
    have b15 : But p H14 H15 := e15 ▸ But.upd
    intro od hod
    generalize eH16 : upd _ od _ = H16
    have SH16 := newS eH16 hod
    have ood := newO eH16
    have m16 := SH16 _ _ m15
    have l9 : (putF "order" (.ref od) [("depth", .int (k : Nat)), ("amounts", .ref A), ("room", .int (room : Nat)), ("kept", .int (kept : Nat)), ("rows", .ref D), ("asked", .ref as), ("answers", .ref an), ("ends", .ref en)] : List (Str × V)).length < 1000 := Nat.lt_of_le_of_lt (kS _ _ _ 8 (Nat.le_refl 8)) (by decide)
    try walk_at "go"
    generalize e17 : upd H16 p _ = H17
    have e17 : upd H16 p (.ins (cAt mg "Net") dx [("depth", .int (k : Nat)), ("amounts", .ref A), ("room", .int (room : Nat)), ("kept", .int (kept : Nat)), ("rows", .ref D), ("asked", .ref as), ("answers", .ref an), ("ends", .ref en), ("order", .ref od)]) = H17 := e17
    have m17 : H17 p = some (.ins (cAt mg "Net") dx [("depth", .int (k : Nat)), ("amounts", .ref A), ("room", .int (room : Nat)), ("kept", .int (kept : Nat)), ("rows", .ref D), ("asked", .ref as), ("answers", .ref an), ("ends", .ref en), ("order", .ref od)]) := e17 ▸ upd_same
    have b17 : But p H16 H17 := e17 ▸ But.upd
    intro pa hpa
    generalize eH18 : upd _ pa _ = H18
    have SH18 := newS eH18 hpa
    have opa := newO eH18
    have m18 := SH18 _ _ m17
    have l10 : (putF "pairs" (.ref pa) [("depth", .int (k : Nat)), ("amounts", .ref A), ("room", .int (room : Nat)), ("kept", .int (kept : Nat)), ("rows", .ref D), ("asked", .ref as), ("answers", .ref an), ("ends", .ref en), ("order", .ref od)] : List (Str × V)).length < 1000 := Nat.lt_of_le_of_lt (kS _ _ _ 9 (Nat.le_refl 9)) (by decide)
    try walk_at "go"
    generalize e19 : upd H18 p _ = H19
    have e19 : upd H18 p (.ins (cAt mg "Net") dx [("depth", .int (k : Nat)), ("amounts", .ref A), ("room", .int (room : Nat)), ("kept", .int (kept : Nat)), ("rows", .ref D), ("asked", .ref as), ("answers", .ref an), ("ends", .ref en), ("order", .ref od), ("pairs", .ref pa)]) = H19 := e19
    have m19 : H19 p = some (.ins (cAt mg "Net") dx [("depth", .int (k : Nat)), ("amounts", .ref A), ("room", .int (room : Nat)), ("kept", .int (kept : Nat)), ("rows", .ref D), ("asked", .ref as), ("answers", .ref an), ("ends", .ref en), ("order", .ref od), ("pairs", .ref pa)]) := e19 ▸ upd_same
    have b19 : But p H18 H19 := e19 ▸ But.upd
    have l11 : (putF "now" (.int ((0 : Nat) : Int)) [("depth", .int (k : Nat)), ("amounts", .ref A), ("room", .int (room : Nat)), ("kept", .int (kept : Nat)), ("rows", .ref D), ("asked", .ref as), ("answers", .ref an), ("ends", .ref en), ("order", .ref od), ("pairs", .ref pa)] : List (Str × V)).length < 1000 := Nat.lt_of_le_of_lt (kS _ _ _ 10 (Nat.le_refl 10)) (by decide)
    try walk_at "go"
    generalize e20 : upd H19 p _ = H20
    have e20 : upd H19 p (.ins (cAt mg "Net") dx [("depth", .int (k : Nat)), ("amounts", .ref A), ("room", .int (room : Nat)), ("kept", .int (kept : Nat)), ("rows", .ref D), ("asked", .ref as), ("answers", .ref an), ("ends", .ref en), ("order", .ref od), ("pairs", .ref pa), ("now", .int ((0 : Nat) : Int))]) = H20 := e20
    have m20 : H20 p = some (.ins (cAt mg "Net") dx [("depth", .int (k : Nat)), ("amounts", .ref A), ("room", .int (room : Nat)), ("kept", .int (kept : Nat)), ("rows", .ref D), ("asked", .ref as), ("answers", .ref an), ("ends", .ref en), ("order", .ref od), ("pairs", .ref pa), ("now", .int ((0 : Nat) : Int))]) := e20 ▸ upd_same
    have b20 : But p H19 H20 := e20 ▸ But.upd
    have pH : H p ≠ none := by rw [hp]; exact fun z => by cases z
    have c19 : But p H19 H20 := b20
    have c18 : But p H18 H20 := b19.trans c19
    have c17 : But p H17 H20 := (same_but SH18).trans c18
    have c16 : But p H16 H20 := b17.trans c17
    have c15 : But p H15 H20 := (same_but SH16).trans c16
    have c14 : But p H14 H20 := b15.trans c15
    have c13 : But p H13 H20 := (same_but SH14).trans c14
    have c12 : But p H12 H20 := b13.trans c13
    have c11 : But p H11 H20 := (same_but SH12).trans c12
    have c10 : But p H10 H20 := b11.trans c11
    have c9 : But p H9 H20 := (same_but SH10).trans c10
    have c7 : But p H7 H20 := b9.trans c9
    have c6 : But p H6 H20 := (same_but S7).trans c7
    have c3 : But p H3 H20 := b4.trans (b5.trans (b6.trans c6))
    have c2 : But p H2 H20 := (same_but SH3).trans c3
    have c0 : But p H H20 := (same_but S1).trans (b2.trans c2)
    have sm : ∀ {U W : Hp} {a : Addr}, But p U W → W p ≠ none → U a ≠ none → W a ≠ none := fun {U W a} b hw hu => by
      by_cases c : a = p
      · rw [c]; exact hw
      · cases e : U a with
        | none => exact absurd e hu
        | some o => rw [b _ _ c e]; exact fun z => by cases z
    have ss : ∀ {U W : Hp} {a : Addr}, Same U W → U a ≠ none → W a ≠ none := fun {U W a} b hu => by
      cases e : U a with
      | none => exact absurd e hu
      | some o => rw [b _ _ e]; exact fun z => by cases z
    have q6 : H6 p ≠ none := by rw [m6]; exact fun z => by cases z
    have q9 : H9 p ≠ none := by rw [m9]; exact fun z => by cases z
    have q11 : H11 p ≠ none := by rw [m11]; exact fun z => by cases z
    have q13 : H13 p ≠ none := by rw [m13]; exact fun z => by cases z
    have q15 : H15 p ≠ none := by rw [m15]; exact fun z => by cases z
    have q17 : H17 p ≠ none := by rw [m17]; exact fun z => by cases z
    have q20 : H20 p ≠ none := by rw [m20]; exact fun z => by cases z
    have np : ∀ {U : Hp} {a : Addr}, U p ≠ none → U a = none → a ≠ p := fun {U a} h1 h2 z => h1 (z ▸ h2)
    have bn : ∀ {U W : Hp} {a : Addr}, But p U W → a ≠ p → W a = none → U a = none := fun {U W a} b h1 h2 => by
      cases e : U a with
      | none => rfl
      | some o => rw [b _ _ h1 e] at h2; cases h2
    have B02 : But p H H2 := (same_but S1).trans b2
    have B06 : But p H H6 := B02.trans ((same_but SH3).trans (b4.trans (b5.trans b6)))
    have B09 : But p H H9 := B06.trans ((same_but S7).trans b9)
    have B11 : But p H H11 := B09.trans ((same_but SH10).trans b11)
    have B13 : But p H H13 := B11.trans ((same_but SH12).trans b13)
    have B15 : But p H H15 := B13.trans ((same_but SH14).trans b15)
    have B17 : But p H H17 := B15.trans ((same_but SH16).trans b17)
    have xp := x3
    have xa := x4
    have gx : ∀ j, j ≤ k → ∃ h : j < xs.length, xs.getD j (0, []) = xs[j] := fun j hj => ⟨by omega, by rw [List.getD_eq_getElem?_getD, List.getElem?_eq_getElem (by omega)]; rfl⟩
    have gl : ∀ j l, j ≤ k → l < 2 ^ k → ∃ (h : j < xs.length) (h2 : l < (xs[j]).2.length), (xs.getD j (0, [])).2.getD l 0 = (xs[j]).2[l] := fun j l hj hl => by
      obtain ⟨h, e⟩ := gx j hj
      have h2 : l < (xs[j]).2.length := by rw [(xa _ (List.getElem_mem h)).2.1]; exact hl
      exact ⟨h, h2, by rw [e, List.getD_eq_getElem?_getD, List.getElem?_eq_getElem h2]; rfl⟩
    have xl : ∀ j, j ≤ k → H7 (xs.getD j (0, [])).1 = some (.lst ((xs.getD j (0, [])).2.map V.ref)) ∧ (xs.getD j (0, [])).2.length = 2 ^ k ∧ H6 (xs.getD j (0, [])).1 = none ∧ (xs.getD j (0, [])).1 ≠ D := fun j hj => by
      obtain ⟨h, e⟩ := gx j hj
      rw [e]
      obtain ⟨g1, g2, g3, g4, g5, g6⟩ := xa _ (List.getElem_mem h)
      exact ⟨g1, g2, g4, g5⟩
    have xn : ∀ j l, j ≤ k → l < 2 ^ k → H7 ((xs.getD j (0, [])).2.getD l 0) = some (.lst []) ∧ H6 ((xs.getD j (0, [])).2.getD l 0) = none ∧ (xs.getD j (0, [])).2.getD l 0 ≠ D := fun j l hj hl => by
      obtain ⟨h, h2, e⟩ := gl j l hj hl
      rw [e]
      obtain ⟨g1, g2, g3, g4, g5, g6⟩ := xa _ (List.getElem_mem h)
      exact g6 _ (List.getElem_mem h2)
    have A20 : H20 A = some (.lst (am.map V.int)) := c3 _ _ (np (by rw [m2]; exact fun z => by cases z) hA) oA
    have D20 : H20 D = some (.lst (xs.map fun x => V.ref x.1)) := c7 _ _ (np q6 hD) x1
    have as20 : H20 as = some (.lst []) := c10 _ _ (np q9 has) oas
    have an20 : H20 an = some (.lst []) := c12 _ _ (np q11 han) oan
    have en20 : H20 en = some (.lst []) := c14 _ _ (np q13 hen) oen
    have od20 : H20 od = some (.lst []) := c16 _ _ (np q15 hod) ood
    have pa20 : H20 pa = some (.lst []) := c18 _ _ (np q17 hpa) opa
    have some_ : ∀ {U : Hp} {a : Addr} {o : HO}, U a = some o → U a ≠ none := fun h => by rw [h]; exact fun z => by cases z
    have lv_inj : ∀ i j, i ≤ k → j ≤ k → i < j → (xs.getD i (0, [])).1 ≠ (xs.getD j (0, [])).1 ∧ ∀ a ∈ (xs.getD i (0, [])).2, a ∉ (xs.getD j (0, [])).2 := fun i j hi hj hl => by
      obtain ⟨h1, e1⟩ := gx i hi
      obtain ⟨h2, e2⟩ := gx j hj
      rw [e1, e2]
      exact List.pairwise_iff_getElem.mp xp i j h1 h2 hl
    have mem_ : ∀ j l, j ≤ k → l < 2 ^ k → (xs.getD j (0, [])).2.getD l 0 ∈ (xs.getD j (0, [])).2 := fun j l hj hl => by
      obtain ⟨h, h2, e⟩ := gl j l hj hl
      rw [e, (gx j hj).2]
      exact List.getElem_mem h2
    have e2k : 1 ≤ 2 ^ k := Nat.one_le_two_pow
    have dif : ∀ i j l, i ≤ k → j ≤ k → l < 2 ^ k → (xs.getD i (0, [])).1 ≠ (xs.getD j (0, [])).2.getD l 0 := fun i j l hi hj hl z => by
      have a := (xl i hi).1
      have b := (xn j l hj hl).1
      rw [z, b] at a
      have c := congrArg List.length (HO.lst.inj (Option.some.inj a))
      rw [List.length_map, (xl i hi).2.1] at c
      have c : 0 = 2 ^ k := c
      omega
    refine q (fun n => match n with | .me => p | .am => A | .rw => D | .lv j => (xs.getD j (0, [])).1 | .ln j l => (xs.getD j (0, [])).2.getD l 0 | .as => as | .an => an | .en => en | .od => od | .pa => pa) H20 rfl c0 (fun n hn nm => ?_) ⟨?_, fun n hn => ?_⟩
    · cases n with
      | me => exact absurd rfl nm
      | am => exact bn B02 (np (by rw [m2]; exact fun z => by cases z) hA) hA
      | rw => exact bn B06 (np q6 hD) hD
      | lv j => exact bn B06 (np q6 (xl j hn).2.2.1) (xl j hn).2.2.1
      | ln j l => exact bn B06 (np q6 (xn j l hn.1 hn.2).2.1) (xn j l hn.1 hn.2).2.1
      | as => exact bn B09 (np q9 has) has
      | an => exact bn B11 (np q11 han) han
      | en => exact bn B13 (np q13 hen) hen
      | od => exact bn B15 (np q15 hod) hod
      | pa => exact bn B17 (np q17 hpa) hpa
    · refine inj_rk (p := p) (fun r => match r with | 0 => H2 | 1 => H6 | 2 => upd H6 D (.lst []) | 3 => H9 | 4 => H11 | 5 => H13 | 6 => H15 | 7 => H17 | _ => H20) rfl (fun n hn nm => ?_) (fun r a h => ?_) (fun n hn nm => ?_) (fun n hn nm => ?_) (fun m n h1 h2 h3 h4 h5 => ?_)
      · cases n with
        | me => exact absurd rfl nm
        | am => exact np (by rw [m2]; exact fun z => by cases z) hA
        | rw => exact np q6 hD
        | lv j => exact np q6 (xl j hn).2.2.1
        | ln j l => exact np q6 (xn j l hn.1 hn.2).2.1
        | as => exact np q9 has
        | an => exact np q11 han
        | en => exact np q13 hen
        | od => exact np q15 hod
        | pa => exact np q17 hpa
      · match r, h with
        | 0, h => exact sm (b4.trans (b5.trans b6)) q6 (ss SH3 h)
        | 1, h => exact ss (same_new hD _) h
        | 2, h =>
          refine sm b9 q9 ?_
          by_cases c : a = D
          · rw [c, x1]; exact fun z => by cases z
          · have h : upd H6 D (.lst []) a ≠ none := h
            rw [upd_ne c] at h
            exact ss S7 h
        | 3, h => exact sm b11 q11 (ss SH10 h)
        | 4, h => exact sm b13 q13 (ss SH12 h)
        | 5, h => exact sm b15 q15 (ss SH14 h)
        | 6, h => exact sm b17 q17 (ss SH16 h)
        | 7, h => exact sm (b19.trans b20) q20 (ss SH18 h)
        | r + 8, h => exact h
      · cases n with
        | me => exact absurd rfl nm
        | am => exact hA
        | rw => exact hD
        | lv j => exact (upd_ne (xl j hn).2.2.2).trans (xl j hn).2.2.1
        | ln j l => exact (upd_ne (xn j l hn.1 hn.2).2.2).trans (xn j l hn.1 hn.2).2.1
        | as => exact has
        | an => exact han
        | en => exact hen
        | od => exact hod
        | pa => exact hpa
      · cases n with
        | me => exact absurd rfl nm
        | am => exact sm (b4.trans (b5.trans b6)) q6 (some_ oA)
        | rw => exact some_ upd_same
        | lv j => exact sm b9 q9 (some_ (xl j hn).1)
        | ln j l => exact sm b9 q9 (some_ (xn j l hn.1 hn.2).1)
        | as => exact sm b11 q11 (some_ oas)
        | an => exact sm b13 q13 (some_ oan)
        | en => exact sm b15 q15 (some_ oen)
        | od => exact sm b17 q17 (some_ ood)
        | pa => exact sm (b19.trans b20) q20 (some_ opa)
      · cases m with
        | lv i =>
          cases n with
          | lv j =>
            rcases Nat.lt_trichotomy i j with g | g | g
            · exact absurd h5 (lv_inj i j h3 h4 g).1
            · rw [g]
            · exact absurd h5.symm (lv_inj j i h4 h3 g).1
          | ln j l => exact absurd h5 (dif i j l h3 h4.1 h4.2)
          | _ => simp [rkN] at h2
        | ln i l =>
          cases n with
          | lv j => exact absurd h5.symm (dif j i l h4 h3.1 h3.2)
          | ln j m =>
            have h5 : (xs.getD i (0, [])).2.getD l 0 = (xs.getD j (0, [])).2.getD m 0 := h5
            rcases Nat.lt_trichotomy i j with g | g | g
            · exact absurd (h5.symm ▸ mem_ j m h4.1 h4.2) ((lv_inj i j h3.1 h4.1 g).2 _ (mem_ i l h3.1 h3.2))
            · subst g
              obtain ⟨u1, u2, u3⟩ := gl i l h3.1 h3.2
              obtain ⟨v1, v2, v3⟩ := gl i m h4.1 h4.2
              have h5 : (xs[i]).2[l] = (xs[i]).2[m] := u3.symm.trans (h5.trans v3)
              have nd := (xa _ (List.getElem_mem u1)).2.2.1
              rcases Nat.lt_trichotomy l m with y | y | y
              · exact absurd h5 (List.pairwise_iff_getElem.mp nd l m u2 v2 y)
              · rw [y]
              · exact absurd h5.symm (List.pairwise_iff_getElem.mp nd m l v2 u2 y)
            · exact absurd (h5 ▸ mem_ i l h3.1 h3.2) ((lv_inj j i h4.1 h3.1 g).2 _ (mem_ j m h4.1 h4.2))
          | _ => simp [rkN] at h2
        | _ => simp [rkN] at h1
    · cases n with
      | me => exact ⟨dx, m20⟩
      | am => exact A20
      | rw => exact D20.trans (congrArg (fun z => some (HO.lst z)) (ext_getD (fun x : Addr × List Addr => V.ref x.1) (0, []) x2))
      | lv j =>
        have hj : j ≤ k := hn
        have q7 : H7 p ≠ none := by rw [m7]; exact fun z => by cases z
        exact (c7 _ _ (np q6 (xl j hj).2.2.1) (xl j hj).1).trans (congrArg (fun z => some (HO.lst z)) (ext_getD V.ref 0 (xl j hj).2.1))
      | ln j l => exact ⟨[], c7 _ _ (np q6 (xn j l hn.1 hn.2).2.1) (xn j l hn.1 hn.2).1, rfl, fun x hx => absurd hx List.not_mem_nil⟩
      | as => exact ⟨[], as20, rfl, fun x hx => absurd hx List.not_mem_nil⟩
      | an => exact an20
      | en => exact en20
      | od => exact od20
      | pa => exact ⟨[], pa20, rfl, fun x hx => absurd hx List.not_mem_nil⟩
/-! SPLIT -/
/-! ### the law's draws of nets in time -/
omit B in
theorem But.fr {p E : Addr} {H H1 : Hp} {o : HO} (b : But p H H1) (hE : H E = none) : But p H (L2.upd H1 E o) := fun x u n h => by rw [upd_ne (ne_of_none h hE)]; exact b x u n h
omit B in
theorem pot_keep {p : Addr} {H H' : Hp} (b : But p H H') (hp : PotAt H p) : TK H H' := fun t xs e => by
  obtain ⟨_, _, h1, _⟩ := hp
  exact b _ _ (ne_of e h1 (by intro z; cases z)) e
def spPotL (K : PySem.W.Frag) : Sp := fun vs H Q _ => ∃ (a : Addr) (ns : List Int) (k : Nat), vs = [.ref a, .int k] ∧ SqL K H a (ns.map V.int) ∧ k ≤ 60 ∧ ∀ p H', H p = none → Same H H' → PotAt H' p → Q (.ref p) H'
theorem k__law_pot (D : Df K mg "_law_pot" s__law_pot ["_law_script", "_law_k"]) : Dn P w K mg base 1 "_law_pot" ["_law_script", "_law_k"] (spPotL K) := by
  refine D.ok fun f fd F => okG0 F sc__law_pot (fun vs H Q E h => ?_) (fun cdv A outer s H vs Q E hr h => ⟨_, (pss_cons (ps_set (i := 2) sc__law_pot.nd rfl (Or.inl rfl) (pe_op op_add pe_int (pe_op op_mulX pe_int (pv 1))))
    (pss_cons (ps_for PassesOwn.never rfl (kk (K := K) (F := fun K => iList K _) (P := PI _ _ _) (pi_list (pe_slice (kk (K := K) (F := rSlL) (P := L2.SlR _) sl_list) (pv 0) po_none (po_some pe_int)))) (pg_name (i := 3) sc__law_pot.nd rfl (Or.inl rfl))
      (pss_one (ps_set (i := 2) sc__law_pot.nd rfl (Or.inl rfl) (pe_op op_mod (pe_op op_add (pe_op op_mulX (pv 2) pe_int) (pv 3)) pe_int))))
    (pss_cons (ps_set (i := 4) sc__law_pot.nd rfl (Or.inl rfl) pe_int)
    (C8.pss_cut (ps_if (pt_cmpR op_lt (pv 1) (pe_callB (lenK (K := K)) (by rfl) B.len_ (by decide +kernel) (pa_cons (pv 0) pa_nil)) (nomark _))
      (pss_one (ps_set (i := 4) sc__law_pot.nd rfl (Or.inl rfl) (pe_ix (kk (K := K) (F := rIxL) (P := IxR _) ix_list) (pv 0) (pv 1) (fun _ _ => rfl))))
      pss_nil)
    (pss_one (ps_ret (pe_lst (pa_cons (pe_callB (call_max2 rfl) (by rfl) B.max_ (by decide +kernel) (pa_cons pe_int (pa_cons (pe_op op_sub (pv 4) (pe_op op_pow pe_int pe_int)) pa_nil))) (pa_cons (pe_op op_add (pe_op op_mod (pe_op op_add (pe_op op_mulX (pv 2) (pv 2)) (pe_op op_mulX pe_int (pv 1))) pe_int) pe_int) pa_nil))))))))), ?_⟩)
  · obtain ⟨a, ns, k, rfl, _⟩ := h; rfl
  · obtain ⟨a, ns, k, rfl, hs, hk, q⟩ := h
    have mk : CMulX 131 (k : Int) := mulx 10 10 (by omega) (by omega)
    try walk_at "go"
    intro T hT
    generalize eH1 : upd _ T _ = H1
    have SH1 := newS eH1 hT
    have oT := newO eH1
    have hs1 := SH1.seq hs
    have oT : H1 T = some (.lst ((ns.take 40).map V.int)) := by rw [oT, show (some 40 : Option Int) = some ((40 : Nat) : Int) from rfl, cut_to, ← List.map_take]
    have e7 : (7 : Int) + 131 * (k : Int) < 2147483647 := by omega
    try walk_at "go"
    refine for_list (K := K) (a := T) (xs := (ns.take 40).map V.int) (fun i σ H' => Kept (∃ (sd : Int) (v3 v4 : Option V), σ = [some (.ref a), some (.int (k : Nat)), some (.int sd), v3, v4] ∧ H1 = H' ∧ 0 ≤ sd ∧ sd < 2147483647)) ⟨_, _, _, rfl, rfl, by omega, e7⟩ (fun i σ H' _ h => by obtain ⟨_, _, _, _, h, _⟩ := h; rw [← h]; exact SqL.of oT) ?_ ?_
    · rintro i v σ H2 hi ⟨sd, v3, v4, rfl, rfl, s0, s1⟩
      rw [List.getElem?_map] at hi
      obtain ⟨c, hc, rfl⟩ := Option.map_eq_some_iff.mp hi
      have ms : CMulX sd 48271 := mulx 40 16 (by omega) (by decide)
      have h1 := Int.emod_nonneg (sd * 48271 + c) (by decide : (2147483647 : Int) ≠ 0)
      have h2 := Int.emod_lt_of_pos (sd * 48271 + c) (by decide : (0 : Int) < 2147483647)
      try walk_at "go"
      exact ⟨⟨_, _, _, rfl, rfl, h1, h2⟩⟩
    rintro σ H2 ⟨sd, v3, v4, rfl, rfl, s0, s1⟩
    try walk_at "go"
    refine ⟨fun σ H' => ∃ c : Int, σ = [some (.ref a), some (.int (k : Nat)), some (.int sd), v3, some (.int c)] ∧ H1 = H', ?_, ?_⟩
    · try walk_at "go"
      refine ite2 (fun c => ?_) (fun c => ?_)
      · have c' : (k : Int) < ((ns.map V.int).length : Nat) := of_decide_eq_true c
        have hk2 : k < ns.length := by rw [List.length_map] at c'; omega
        have ik : atI (ns.map V.int) (k : Int) = some (.int ns[k]) := atI_nat (by rw [List.getElem?_map, List.getElem?_eq_getElem hk2] <;> rfl)
        try walk_at "go"
        first | exact ⟨_, rfl, rfl⟩ | rfl
      · try walk_at "go"
        first | exact ⟨_, rfl, rfl⟩ | rfl
    · rintro _ _ ⟨c, rfl, rfl⟩
      have cp : CPow 10 18 := ⟨by decide, by decide, by decide⟩
      have mx : CMulX 97 (k : Int) := mulx 10 10 (by omega) (by omega)
      have mm : CMulX sd sd := mulx 40 40 (by omega) (by omega)
      have h1 := Int.emod_nonneg (sd * sd + 97 * (k : Int)) (by decide : (2147483563 : Int) ≠ 0)
      have h2 := Int.emod_lt_of_pos (sd * sd + 97 * (k : Int)) (by decide : (0 : Int) < 2147483563)
      try walk_at "go"
      intro p hp
      refine q p _ (none_bk SH1 hp) (SH1.trans (same_new hp _)) ⟨_, _, upd_same, ?_, ?_, ?_⟩
      · split <;> omega
      · show 0 ≤ (sd * sd + 97 * (k : Int)) % 2147483563 + 1
        omega
      · show (sd * sd + 97 * (k : Int)) % 2147483563 + 1 < 2 ^ 40
        have : (2 : Int) ^ 40 = 1099511627776 := by decide
        omega
def spTakeL : Sp := fun vs H Q _ => ∃ (p : Addr) (m : Int), vs = [.ref p, .int m] ∧ PotAt H p ∧ 1 ≤ m ∧ m < 2 ^ 200 ∧ ∀ (d : Nat) H', (d : Int) < m → But p H H' → PotAt H' p → Q (.int d) H'
theorem k__law_take (D : Df K mg "_law_take" s__law_take ["_law_pot_here", "_law_many"]) : Dn P w K mg base 1 "_law_take" ["_law_pot_here", "_law_many"] spTakeL := by
  refine D.ok fun f fd F => okG0 F sc__law_take (fun vs H Q E h => ?_) (fun cdv A outer s H vs Q E hr h => ⟨_, (pss_cons (ps_if (pt_cmpR op_gt (pe_ix (kk (K := K) (F := rIxL) (P := IxR _) ix_list) (pv 0) pe_int (fun _ _ => rfl)) pe_int (nomark _))
      (pss_cons (ps_asg (pe_callB call_divmodW (by rfl) B.divmod_ (by decide +kernel) (pa_cons (pe_ix (kk (K := K) (F := rIxL) (P := IxR _) ix_list) (pv 0) pe_int (fun _ _ => rfl)) (pa_cons (pv 1) pa_nil))) (kk (K := K) (F := fun K => gTup K 2 _) (P := PG _ _) (pg_tup rfl (pgs_cons (pg_sub (pv 0) pe_int set_list) (pgs_cons (pg_name (i := 2) sc__law_take.nd rfl (Or.inl rfl)) pgs_nil)))))
      (pss_one (ps_ret (pv 2))))
      pss_nil)
    (pss_cons (ps_asg (pe_op op_mod (pe_op op_add (pe_op op_mulX (pe_ix (kk (K := K) (F := rIxL) (P := IxR _) ix_list) (pv 0) pe_int (fun _ _ => rfl)) pe_int) pe_int) pe_int) (pg_sub (pv 0) pe_int set_list))
    (pss_one (ps_ret (pe_op op_mod (pe_op op_fdivW (pe_op op_mod (pe_op op_mulX (pe_ix (kk (K := K) (F := rIxL) (P := IxR _) ix_list) (pv 0) pe_int (fun _ _ => rfl)) (pe_ix (kk (K := K) (F := rIxL) (P := IxR _) ix_list) (pv 0) pe_int (fun _ _ => rfl))) pe_int) pe_int) (pv 1)))))), ?_⟩)
  · obtain ⟨p, m, rfl, _⟩ := h; rfl
  · obtain ⟨p, m, rfl, ⟨a, b, hp, ha, hb, hb2⟩, hm, hm2, q0⟩ := h
    have q : ∀ (d : Int) H', 0 ≤ d → d < m → But p H H' → PotAt H' p → Q (.int d) H' := fun d H' d0 d1 => by
      obtain ⟨e, rfl⟩ : ∃ e : Nat, d = (e : Int) := ⟨d.toNat, by omega⟩
      exact q0 e H' d1
    have i0 : atI [V.int a, .int b] 0 = some (.int a) := rfl
    have i1 : atI [V.int a, .int b] 1 = some (.int b) := rfl
    have cd : CDivP a m := divp_small (by omega) (Int.lt_trans hm2 (by decide))
    have m0 : m ≠ 0 := by omega
    refine ⟨_, rfl, p, _, _, _, rfl, rfl, SqL.of hp, at_of (j := 0) rfl rfl, _, _, rfl, rfl, _, rfl, ite2 (fun c => ?_) (fun c => ?_)⟩
    · have h1 := Int.emod_nonneg a (by omega : m ≠ 0)
      have h2 := Int.emod_lt_of_pos a (by omega : 0 < m)
      have h3 := Int.ediv_nonneg ha (by omega : 0 ≤ m)
      have fin : ∀ H', But p H H' → H' p = some (.lst [.int (a / m), .int b]) → Q (.int (a % m)) H' := fun H' e o => q _ _ h1 h2 e ⟨_, _, o, h3, hb, hb2⟩
      clear hm2 hb2
      try walk_at "go"
      intro T hT
      generalize eH1 : upd _ T _ = H1
      have SH1 := newS eH1 hT
      have oT := newO eH1
      have hp1 := SH1 _ _ hp
      try walk_at "go"
      exact fin _ ((same_but SH1).trans But.upd) upd_same
    · have hm1 := Int.emod_nonneg (b * 39373 + 7919) (by decide : (2147483629 : Int) ≠ 0)
      have hm3 := Int.emod_lt_of_pos (b * 39373 + 7919) (by decide : (0 : Int) < 2147483629)
      refine ⟨_, rfl, p, _, _, _, rfl, rfl, SqL.of hp, at_of (j := 1) rfl rfl, _, _, rfl, rfl, mulx 40 16 (by omega) (by decide), _, _, rfl, rfl, _, _, rfl, rfl, pj, ?_⟩
      refine ⟨_, rfl, p, _, _, _, rfl, rfl, hp, rfl, ?_⟩
      refine ⟨_, rfl, p, _, _, _, rfl, rfl, SqL.of upd_same, at_of (j := 1) rfl rfl, _, rfl, p, _, _, _, rfl, rfl, SqL.of upd_same, at_of (j := 1) rfl rfl, _, _, rfl, rfl, mulx 31 31 (by omega) (by omega), ?_⟩
      refine ⟨_, _, rfl, rfl, pj, _, _, rfl, rfl, ⟨by decide, by decide⟩, _, rfl, _, _, rfl, rfl, hm, ?_⟩
      exact q _ _ (Int.emod_nonneg _ (by omega)) (Int.emod_lt_of_pos _ (by omega)) But.upd ⟨_, _, upd_same, ha, hm1, by omega⟩
def spNumL : Sp := fun vs H Q _ => ∃ (p : Addr), vs = [.ref p] ∧ PotAt H p ∧ ∀ (n : Int) H', -(10 ^ 30) ≤ n → n ≤ 10 ^ 30 → But p H H' → PotAt H' p → Q (.int n) H'
theorem k__law_number (D : Df K mg "_law_number" s__law_number ["_law_pot_here"]) (D__law_take : Dn P w K mg base 1 "_law_take" ["_law_pot_here", "_law_many"] spTakeL) : Dn P w K mg base 2 "_law_number" ["_law_pot_here"] spNumL := by
  refine D.ok fun f fd F => okG0 F sc__law_number (fun vs H Q E h => ?_) (fun cdv A outer s H vs Q E hr h => ⟨_, (pss_cons (ps_set (i := 1) sc__law_number.nd rfl (Or.inl rfl) (pe_cD D__law_take (hr.less (by decide)) rfl (pa_cons (pv 0) (pa_cons pe_int pa_nil))))
    (pss_cons (ps_if (pt_cmpR op_lt (pv 1) pe_int (nomark _))
      (pss_one (ps_ret (pe_op op_sub (pe_cD D__law_take (hr.less (by decide)) rfl (pa_cons (pv 0) (pa_cons pe_int pa_nil))) pe_int)))
      pss_nil)
    (pss_cons (ps_if (pt_cmpR op_eq (pv 1) pe_int (nomark _))
      (pss_one (ps_ret (pe_op op_sub (pe_cD D__law_take (hr.less (by decide)) rfl (pa_cons (pv 0) (pa_cons (pe_op op_mulX pe_int (pe_op op_pow pe_int pe_int)) pa_nil))) (pe_op op_pow pe_int pe_int))))
      pss_nil)
    (pss_one (ps_ret (pe_ix (kk (K := K) (F := rIxL) (P := IxR _) ix_list) (pe_lst (pa_cons pe_int (pa_cons pe_int (pa_cons (pe_un un_neg pe_int) (pa_cons (pe_op op_sub pe_int (pe_cD D__law_take (hr.less (by decide)) rfl (pa_cons (pv 0) (pa_cons pe_int pa_nil)))) pa_nil))))) (pe_cD D__law_take (hr.less (by decide)) rfl (pa_cons (pv 0) (pa_cons pe_int pa_nil))) (fun _ _ => rfl))))))), ?_⟩)
  · obtain ⟨p, rfl, _⟩ := h; rfl
  · obtain ⟨p, rfl, hp, q⟩ := h
    have cp : CPow 10 29 := ⟨by decide, by decide, by decide⟩
    have e29 : (10 : Int) ^ Int.toNat 29 = 100000000000000000000000000000 := by decide
    have cm : CMulX 2 ((10 : Int) ^ Int.toNat 29) := mulx 5 110 (by decide) (by decide)
    try walk_at "go"
    intro d H1 d5 b1 p1
    try walk_at "go"
    refine ite2 (fun c => ?_) (fun c => ?_)
    · try walk_at "go"
      intro e H2 e9 b2 p2
      try walk_at "go"
      exact q ((e : Int) - 4) H2 (by omega) (by omega) (b1.trans b2) p2
    try walk_at "go"
    refine ite2 (fun c => ?_) (fun c => ?_)
    · try walk_at "go"
      rw [e29]
      intro e H2 e9 b2 p2
      try walk_at "go"
      exact q ((e : Int) - 10 ^ Int.toNat 29) H2 (by rw [e29]; omega) (by rw [e29]; omega) (b1.trans b2) p2
    try walk_at "go"
    intro e H2 e9 b2 p2
    try walk_at "go"
    intro M hM
    generalize eH3 : upd _ M _ = H3
    have SH3 := newS eH3 hM
    have oM := newO eH3
    have p3 := p2.same SH3
    have nM : M ≠ p := pot_ne p2 hM
    try walk_at "go"
    intro f H4 f4 b4 p4
    have oM4 := b4 _ _ nM oM
    have b04 : But p H H4 := b1.trans (b2.trans ((same_but SH3).trans b4))
    obtain ⟨z, hz, z1, z2⟩ : ∃ z : Int, atI [V.int 0, V.int 1, V.int (-1), V.int (100 - (e : Int))] ((f : Nat) : Int) = some (.int z) ∧ -200 ≤ z ∧ z ≤ 200 := by
      rcases (show f = 0 ∨ f = 1 ∨ f = 2 ∨ f = 3 by omega) with rfl | rfl | rfl | rfl
      · exact ⟨0, rfl, by decide, by decide⟩
      · exact ⟨1, rfl, by decide, by decide⟩
      · exact ⟨-1, rfl, by decide, by decide⟩
      · exact ⟨100 - e, rfl, by omega, by omega⟩
    try walk_at "go"
    exact q z H4 (by omega) (by omega) b04 p4
def spDeedL (K : PySem.W.Frag) : Sp := fun vs H Q _ => ∃ (p : Addr), vs = [.ref p] ∧ PotAt H p ∧ ∀ (a : Addr) (d : Dd) H', But p H H' → PotAt H' p → H a = none → H' a = some (.tup d.vs) → d.In (10 ^ 80) → d.Ok → Q (.ref a) H'
theorem k__law_deed (D : Df K mg "_law_deed" s__law_deed ["_law_pot_here"]) (D__law_take : Dn P w K mg base 1 "_law_take" ["_law_pot_here", "_law_many"] spTakeL) (D__law_number : Dn P w K mg base 2 "_law_number" ["_law_pot_here"] spNumL) : Dn P w K mg base 3 "_law_deed" ["_law_pot_here"] (spDeedL K) := by
  refine D.ok fun f fd F => okG0 F sc__law_deed (fun vs H Q E h => ?_) (fun cdv A outer s H vs Q E hr h => ⟨_, (pss_cons (ps_set (i := 1) sc__law_deed.nd rfl (Or.inl rfl) (pe_cD D__law_take (hr.less (by decide)) rfl (pa_cons (pv 0) (pa_cons pe_int pa_nil))))
    (pss_cons (ps_if (pt_cmpR op_lt (pv 1) pe_int (nomark _))
      (pss_one (ps_ret (pe_tup (pa_cons (pe_ix (kk (K := K) (F := rIxL) (P := IxR _) ix_list) (pe_lst (pa_cons pe_int (pa_cons (pe_cD D__law_number (hr.less (by decide)) rfl (pa_cons (pv 0) pa_nil)) (pa_cons pe_int pa_nil)))) (pv 1) (fun _ _ => rfl)) (pa_cons pe_non (pa_cons pe_non pa_nil))))))
      pss_nil)
    (pss_cons (ps_asg (pe_callB (kk (K := K) (F := rSortedI) (P := CallR _ _) cr_sortedI) (by rfl) B.sorted_ (by decide +kernel) (pa_cons (pe_lst (pa_cons (pe_cD D__law_number (hr.less (by decide)) rfl (pa_cons (pv 0) pa_nil)) (pa_cons (pe_cD D__law_number (hr.less (by decide)) rfl (pa_cons (pv 0) pa_nil)) pa_nil))) pa_nil)) (kk (K := K) (F := fun K => gLstU K 2 _) (P := PG _ _) (pg_lstU rfl (pgs_cons (pg_name (i := 2) sc__law_deed.nd rfl (Or.inl rfl)) (pgs_cons (pg_name (i := 3) sc__law_deed.nd rfl (Or.inl rfl)) pgs_nil)))))
    (pss_cons (ps_if (PW.pt (pw_or (pt_cmpR op_eq (pv 1) pe_int (nomark _)) (pw_or1 (pt_cmpR op_eq (pv 2) (pv 3) (nomark _)))))
      (pss_one (ps_ret (pe_tup (pa_cons pe_int (pa_cons (pv 2) (pa_cons (pv 2) pa_nil))))))
      pss_nil)
    (pss_cons (ps_set (i := 4) sc__law_deed.nd rfl (Or.inl rfl) (pe_op op_mulX (pe_cD D__law_number (hr.less (by decide)) rfl (pa_cons (pv 0) pa_nil)) (pe_callTy call_int1 (by rfl) B.int_ (by decide +kernel) (pa_cons (pe_cmpR op_gt (pv 1) pe_int (nomark _)) pa_nil))))
    (pss_one (ps_ret (pe_ix (kk (K := K) (F := rIxL) (P := IxR _) ix_list) (pe_lst (pa_cons (pe_tup (pa_cons (pv 4) (pa_cons (pv 2) (pa_cons pe_non pa_nil)))) (pa_cons (pe_tup (pa_cons (pv 4) (pa_cons pe_non (pa_cons (pv 3) pa_nil)))) (pa_cons (pe_tup (pa_cons (pv 4) (pa_cons (pv 2) (pa_cons (pv 3) pa_nil)))) pa_nil)))) (pe_cD D__law_take (hr.less (by decide)) rfl (pa_cons (pv 0) (pa_cons pe_int pa_nil))) (fun _ _ => rfl))))))))), ?_⟩)
  · obtain ⟨p, rfl, _⟩ := h; rfl
  · obtain ⟨p, rfl, hp, q⟩ := h
    have fin : ∀ (d : Dd) (a : Addr) H4, But p H H4 → PotAt H4 p → H4 a = none → d.In (10 ^ 80) → d.Ok → Q (.ref a) (upd H4 a (.tup d.vs)) := fun d a H4 b4 p4 ha hi ho =>
      q a d _ (b4.trans (same_but (same_new ha _))) (p4.same (same_new ha _)) (b4.free (pot_ne p4 ha) ha) upd_same hi ho
    try walk_at "go"
    intro so H1 s7 b1 p1
    try walk_at "go"
    refine ite2 (fun c => ?_) (fun c => ?_)
    · try walk_at "go"
      intro n H2 n0 n1 b2 p2
      have b02 := b1.trans b2
      try walk_at "go"
      intro M hM
      generalize eH3 : upd _ M _ = H3
      have SH3 := newS eH3 hM
      have oM := newO eH3
      have c := of_decide_eq_true c
      have p3 := p2.same SH3
      obtain ⟨z, hz, z1, z2⟩ : ∃ z : Int, atI [V.int 1, V.int n, V.int 0] ((so : Nat) : Int) = some (.int z) ∧ -(10 ^ 30) ≤ z ∧ z ≤ 10 ^ 30 := by
        rcases (show so = 0 ∨ so = 1 ∨ so = 2 by omega) with rfl | rfl | rfl
        · exact ⟨1, rfl, by decide, by decide⟩
        · exact ⟨n, rfl, n0, n1⟩
        · exact ⟨0, rfl, by decide, by decide⟩
      try walk_at "go"
      intro a ha
      exact fin ⟨z, none, none⟩ a H3 (b02.trans (same_but SH3)) p3 ha (in_mk (by omega) (by omega) in_none in_none) (fun _ _ h => nomatch h)
    · try walk_at "go"
      intro n H2 n0 n1 b2 p2
      try walk_at "go"
      intro m H3 m0 m1 b3 p3
      have b03 := (b1.trans b2).trans b3
      try walk_at "go"
      intro L hL
      generalize eH4 : upd _ L _ = H4
      have SH4 := newS eH4 hL
      have oL := newO eH4
      have oL : H4 L = some (.lst (([n, m] : List Int).map V.int)) := oL
      try walk_at "go"
      intro ns' R pm sr hR
      have oR := upd_same (H := H4) (a := R) (o := .lst (ns'.map V.int))
      have SR := same_new hR (.lst (ns'.map V.int))
      generalize upd H4 R (.lst (ns'.map V.int)) = H5 at oR SR
      obtain ⟨lo, hi, rfl⟩ : ∃ lo hi, ns' = [lo, hi] := by
        have := pm.length_eq
        match ns', this with
        | [lo, hi], _ => exact ⟨lo, hi, rfl⟩
      have lh : lo ≤ hi := (List.pairwise_cons.mp sr).1 hi (List.mem_singleton.mpr rfl)
      have bd : ∀ z ∈ [lo, hi], -(10 ^ 30) ≤ z ∧ z ≤ 10 ^ 30 := fun z hz => by
        rcases List.mem_cons.mp (pm.subset hz) with g | g
        · rw [g]; exact ⟨n0, n1⟩
        · rw [List.mem_singleton.mp g]; exact ⟨m0, m1⟩
      obtain ⟨lo0, lo1⟩ := bd lo List.mem_cons_self
      obtain ⟨hi0, hi1⟩ := bd hi (List.mem_cons_of_mem _ List.mem_cons_self)
      clear bd pm sr
      have p5 := (p3.same SH4).same SR
      have b05 : But p H H5 := b03.trans (same_but (SH4.trans SR))
      refine ⟨R, _, rfl, SqL.of oR, rfl, ?_⟩
      try walk_at "go"
      have flat : ∀ a, H5 a = none → Q (.ref a) (upd H5 a (.tup [.int 0, .int lo, .int lo])) := fun a ha => fin ⟨0, some lo, some lo⟩ a H5 b05 p5 ha (in_mk (by decide) (by decide) (in_some (by omega) (by omega)) (in_some (by omega) (by omega))) (fun l h e1 e2 => by cases e1; cases e2; exact .inr ⟨rfl, rfl⟩)
      refine ite2 (fun c3 => ?_) (fun c3 => ?_)
      · refine ifT rfl ?_
        try walk_at "go"
        exact flat
      try walk_at "go"
      refine ite2 (fun c4 => ?_) (fun c4 => ?_)
      · try walk_at "go"
        exact flat
      have nlh : lo ≠ hi := fun z => c4 (decide_eq_true (congrArg V.int z))
      try walk_at "go"
      intro ad H6 a0 a1 b6 p6
      have b06 := b05.trans b6
      try walk_at "go"
      refine .inr ⟨_, rfl, ?_⟩
      have ib : (if decide ((5 : Int) < (so : Int)) = true then (1 : Int) else 0) = 0 ∨ (if decide ((5 : Int) < (so : Int)) = true then (1 : Int) else 0) = 1 := by split <;> simp
      refine ⟨_, _, rfl, rfl, mulx 110 4 (by omega) (by rcases ib with g | g <;> rw [g] <;> decide), ?_⟩
      obtain ⟨y, ey, y0, y1⟩ : ∃ y, y = ad * (if decide ((5 : Int) < (so : Int)) = true then (1 : Int) else 0) ∧ -(10 ^ 30) ≤ y ∧ y ≤ 10 ^ 30 := by
        refine ⟨_, rfl, ?_⟩
        rcases ib with g | g <;> rw [g] <;> omega
      have ew : (fun i j : Int => V.int (i * j)) ad (if decide ((5 : Int) < (so : Int)) = true then (1 : Int) else 0) = V.int y := congrArg V.int ey.symm
      rw [ew]
      clear ew ey ib
      try walk_at "go"
      intro t1 ht1
      generalize eH7 : upd _ t1 _ = H7
      have SH7 := newS eH7 ht1
      have ot1 := newO eH7
      try walk_at "go"
      intro t2 ht2
      generalize eH8 : upd _ t2 _ = H8
      have SH8 := newS eH8 ht2
      have ot2 := newO eH8
      have o18 := SH8 _ _ ot1
      try walk_at "go"
      intro t3 ht3
      generalize eH9 : upd _ t3 _ = H9
      have SH9 := newS eH9 ht3
      have ot3 := newO eH9
      have o19 := SH9 _ _ o18
      have o29 := SH9 _ _ ot2
      try walk_at "go"
      intro U hU
      generalize eH10 : upd _ U _ = H10
      have SH10 := newS eH10 hU
      have oU := newO eH10
      have S10 := SH7.trans (SH8.trans (SH9.trans SH10))
      have p10 := p6.same S10
      have nU : U ≠ p := pot_ne ((p6.same (SH7.trans (SH8.trans SH9)))) hU
      have o110 := SH10 _ _ o19
      have o210 := SH10 _ _ o29
      have o310 := SH10 _ _ ot3
      try walk_at "go"
      intro f H11 f3 b11 p11
      have oU11 := b11 _ _ nU oU
      have tk11 := pot_keep b11 p10
      have o111 := tk11 _ _ o110
      have o211 := tk11 _ _ o210
      have o311 := tk11 _ _ o310
      have b0 : But p H H11 := b06.trans ((same_but S10).trans b11)
      have fresh : ∀ {a : Addr} {Ha : Hp}, Same H6 Ha → Ha a = none → H a = none := fun {a Ha} S h => by
        have h6 : H6 a = none := none_bk S h
        exact b06.free (pot_ne p6 h6) h6
      have f1 := fresh (Same.refl _) ht1
      have f2 := fresh SH7 ht2
      have f3' := fresh (SH7.trans SH8) ht3
      obtain ⟨t, d, hz, od, hi', ho, ft⟩ : ∃ (t : Addr) (d : Dd), atI [V.ref t1, V.ref t2, V.ref t3] ((f : Nat) : Int) = some (.ref t) ∧ H11 t = some (.tup d.vs) ∧ d.In (10 ^ 80) ∧ d.Ok ∧ H t = none := by
        rcases (show f = 0 ∨ f = 1 ∨ f = 2 by omega) with rfl | rfl | rfl
        · exact ⟨t1, ⟨y, some lo, none⟩, rfl, o111, in_mk (by omega) (by omega) (in_some (by omega) (by omega)) in_none, fun _ _ _ h => (nomatch h), f1⟩
        · exact ⟨t2, ⟨y, none, some hi⟩, rfl, o211, in_mk (by omega) (by omega) in_none (in_some (by omega) (by omega)), fun _ _ h => (nomatch h), f2⟩
        · exact ⟨t3, ⟨y, some lo, some hi⟩, rfl, o311, in_mk (by omega) (by omega) (in_some (by omega) (by omega)) (in_some (by omega) (by omega)), fun l h e1 e2 => by cases e1; cases e2; left; omega, f3'⟩
      try walk_at "go"
      exact q t d H11 b0 p11 ft od hi' ho
/-! SPLIT -/
def spAskL (K : PySem.W.Frag) : Sp := fun vs H Q _ => ∃ (p so : Addr) (k m : Nat) (ss : List Nat), vs = [.ref p, .int (k : Nat), .int (m : Nat), .ref so] ∧ PotAt H p ∧ H so = some (.lst (ss.map fun n => V.int (n : Nat))) ∧ so ≠ p ∧ 1 ≤ ss.length ∧ ss.length ≤ 4 ∧ (∀ s ∈ ss, s < m) ∧ k ≤ 4 ∧ 1 ≤ m ∧ m ≤ 16 ∧ ∀ (x : Ak) (h : Nat) H', But p H H' → PotAt H' p → x.at_ H' m → x.hand = (h : Nat) → h < 2 ^ k → Q (.ref x.a) H'
theorem k__law_ask (D : Df K mg "_law_ask" s__law_ask ["_law_pot_here", "_law_k", "_law_many", "_law_some"]) (D__law_take : Dn P w K mg base 1 "_law_take" ["_law_pot_here", "_law_many"] spTakeL) (D__law_deed : Dn P w K mg base 3 "_law_deed" ["_law_pot_here"] (spDeedL K)) : Dn P w K mg base 4 "_law_ask" ["_law_pot_here", "_law_k", "_law_many", "_law_some"] (spAskL K) := by
  refine D.ok fun f fd F => okG0 F sc__law_ask (fun vs H Q E h => ?_) (fun cdv A outer s H vs Q E hr h => ⟨_, (pss_cons (ps_set (i := 4) sc__law_ask.nd rfl (Or.inl rfl) (pe_ix (kk (K := K) (F := rIxL) (P := IxR _) ix_list) (pv 3) (pe_cD D__law_take (hr.less (by decide)) rfl (pa_cons (pv 0) (pa_cons (pe_callB (lenK (K := K)) (by rfl) B.len_ (by decide +kernel) (pa_cons (pv 3) pa_nil)) pa_nil))) (fun _ _ => rfl)))
    (C8.pss_cut (ps_if (pt_cmpR op_eq (pe_cD D__law_take (hr.less (by decide)) rfl (pa_cons (pv 0) (pa_cons pe_int pa_nil))) pe_int (nomark _))
      (pss_one (ps_set (i := 4) sc__law_ask.nd rfl (Or.inl rfl) (pe_cD D__law_take (hr.less (by decide)) rfl (pa_cons (pv 0) (pa_cons (pv 2) pa_nil)))))
      pss_nil)
    (pss_one (ps_ret (pe_tup (pa_cons (pe_cD D__law_take (hr.less (by decide)) rfl (pa_cons (pv 0) (pa_cons (pe_op op_shlW pe_int (pv 1)) pa_nil))) (pa_cons (pv 4) (pa_cons (pe_cD D__law_deed (hr.less (by decide)) rfl (pa_cons (pv 0) pa_nil)) pa_nil)))))))), ?_⟩)
  · obtain ⟨p, so, k, m, ss, rfl, _⟩ := h; rfl
  · obtain ⟨p, so, k, m, ss, rfl, hp, hso, np, s1, s4, hs, hk, m1, m16, q⟩ := h
    have ls : (ss.map fun n => V.int (n : Nat)).length = ss.length := List.length_map _
    have sh : CShl 1 (k : Int) := shl_ok (by omega)
    have eL : (1 : Int) * 2 ^ ((k : Nat) : Int).toNat = ((2 ^ k : Nat) : Int) := by rw [Int.one_mul, Int.toNat_natCast]; push_cast; rfl
    have e16 : 2 ^ k ≤ 16 := Nat.pow_le_pow_right (n := 2) (by decide) hk
    have e1 : 1 ≤ 2 ^ k := Nat.one_le_two_pow
    try walk_at "go"
    rw [ls]
    intro d H1 d0 b1 p1
    have hso1 := b1 _ _ np hso
    have hd : d < ss.length := by omega
    have ad : atI (ss.map fun n => V.int (n : Nat)) (d : Int) = some (.int (ss[d] : Nat)) := at_of (j := d) rfl (by rw [List.getElem?_map, List.getElem?_eq_getElem hd] <;> rfl)
    have sm1 := hs _ (List.getElem_mem hd)
    generalize ss[d] = b at ad sm1
    try walk_at "go"
    refine ⟨fun σ H' => ∃ b : Nat, σ = [some (.ref p), some (.int (k : Nat)), some (.int (m : Nat)), some (.ref so), some (.int (b : Nat))] ∧ But p H H' ∧ PotAt H' p ∧ b < m, ?_, ?_⟩
    · try walk_at "go"
      intro e H2 e5 b2 p2
      have b02 := b1.trans b2
      try walk_at "go"
      refine ite2 (fun c => ?_) (fun c => ?_)
      · try walk_at "go"
        intro f H3 fm b3 p3
        try walk_at "go"
        first | exact ⟨f, rfl, b02.trans b3, p3, by omega⟩ | exact ⟨b02.trans b3, p3, by omega⟩ | omega
      · try walk_at "go"
        first | exact ⟨b, rfl, b02, p2, sm1⟩ | exact ⟨b02, p2, sm1⟩ | exact sm1
    rintro σ H2 ⟨b, rfl, b2, p2, bm⟩
    try walk_at "go"
    rw [eL]
    intro h H3 h3 b3 p3
    try walk_at "go"
    intro da dd H4 b4 p4 fd4 od4 hi4 ho4
    try walk_at "go"
    intro t ht
    generalize eH5 : upd _ t _ = H5
    have SH5 := newS eH5 ht
    have ot := newO eH5
    exact q ⟨t, (h : Nat), b, da, dd⟩ h H5 (b2.trans (b3.trans (b4.trans (same_but SH5)))) (p4.same SH5) ⟨ot, ⟨SH5 _ _ od4, hi4, ho4⟩, Int.natCast_nonneg h, by show (h : Int) < 16; omega, bm⟩ rfl (by omega)
/-! SPLIT -/
def spLostL (K : PySem.W.Frag) : Sp := fun vs H Q _ => ∃ (p : Addr) (k : Nat), vs = [.ref p, .int (k : Nat)] ∧ PotAt H p ∧ k ≤ 4 ∧ ∀ (a : Addr) (ls : List (Nat × Nat)) H', But p H H' → PotAt H' p → LsAt H' a ls → Plcs k ls → ls.length ≤ 20 → Q (.ref a) H'
theorem k__law_lost (D : Df K mg "_law_lost" s__law_lost ["_law_pot_here", "_law_k"]) (D__law_take : Dn P w K mg base 1 "_law_take" ["_law_pot_here", "_law_many"] spTakeL) : Dn P w K mg base 4 "_law_lost" ["_law_pot_here", "_law_k"] (spLostL K) := by
  refine D.ok fun f fd F => okG0 F sc__law_lost (fun vs H Q E h => ?_) (fun cdv A outer s H vs Q E hr h => ⟨_, (pss_cons (ps_set (i := 2) sc__law_lost.nd rfl (Or.inl rfl) (pe_lst pa_nil))
    (C8.pss_cut (ps_if (pt_cmpR op_eq (pe_cD D__law_take (hr.less (by decide)) rfl (pa_cons (pv 0) (pa_cons pe_int pa_nil))) pe_int (nomark _))
      (pss_one (ps_for PassesOwn.never rfl (pi_range1 (by rfl) B.range_ (pa_cons (pe_op op_add pe_int (pe_cD D__law_take (hr.less (by decide)) rfl (pa_cons (pv 0) (pa_cons pe_int pa_nil)))) pa_nil)) (pg_name (i := 3) sc__law_lost.nd rfl (Or.inl rfl))
       (pss_cons (ps_set (i := 4) sc__law_lost.nd rfl (Or.inl rfl) (pe_cD D__law_take (hr.less (by decide)) rfl (pa_cons (pv 0) (pa_cons (pe_op op_add (pv 1) pe_int) pa_nil))))
       (pss_cons (ps_set (i := 5) sc__law_lost.nd rfl (Or.inl rfl) (pe_cD D__law_take (hr.less (by decide)) rfl (pa_cons (pv 0) (pa_cons (pe_callB (call_max2 rfl) (by rfl) B.max_ (by decide +kernel) (pa_cons pe_int (pa_cons (pe_op op_fdivW (pe_op op_shlW pe_int (pv 1)) (pe_op op_add pe_int (pe_callTy call_int1 (by rfl) B.int_ (by decide +kernel) (pa_cons (pe_cmpR op_gt (pv 4) pe_int (nomark _)) pa_nil)))) pa_nil))) pa_nil))))
       (pss_one (ps_expr (kk (K := K) (F := fun K => tBM K "list" _ _ _) (P := PE _ _) (pe_bm PySem.F.plainAttrs_list PySem.F.slot_list_extend PySem.F.type_list_extend mt_extend (pv 2) (pa_cons (pe_op op_rep (pe_lst (pa_cons (pe_tup (pa_cons (pv 4) (pa_cons (pv 5) pa_nil))) pa_nil)) (pe_op op_add pe_int (pe_callTy call_int1 (by rfl) B.int_ (by decide +kernel) (pa_cons (pe_cmpR op_eq (pe_cD D__law_take (hr.less (by decide)) rfl (pa_cons (pv 0) (pa_cons pe_int pa_nil))) pe_int (nomark _)) pa_nil)))) pa_nil)))))))))
      pss_nil)
    (pss_one (ps_ret (pe_callTy (tupOfK (K := K)) (by rfl) B.tuple_ (by decide +kernel) (pa_cons (pv 2) pa_nil)))))), ?_⟩)
  · obtain ⟨p, k, rfl, _⟩ := h; rfl
  · obtain ⟨p, k, rfl, hp, hk, q⟩ := h
    have e1 : 1 ≤ 2 ^ k := Nat.one_le_two_pow
    have e16 : 2 ^ k ≤ 16 := Nat.pow_le_pow_right (n := 2) (by decide) hk
    have sh : CShl 1 (k : Int) := shl_ok (by omega)
    have eL : (1 : Int) * 2 ^ ((k : Nat) : Int).toNat = ((2 ^ k : Nat) : Int) := by rw [Int.one_mul, Int.toNat_natCast]; push_cast; rfl
    try walk_at "go"
    intro F hF
    generalize eH0 : upd _ F _ = H0
    have SH0 := newS eH0 hF
    have oF := newO eH0
    have p0 := hp.same SH0
    have nF : F ≠ p := pot_ne hp hF
    try walk_at "go"
    refine ⟨fun σ H' => Kept (∃ (v3 v4 v5 : Option V) (ts : List Addr) (ls : List (Nat × Nat)), σ = [some (.ref p), some (.int (k : Nat)), some (.ref F), v3, v4, v5] ∧ But p H H' ∧ PotAt H' p ∧ H' F = some (.lst (ts.map V.ref)) ∧ PtsAt H' ts ls ∧ Plcs k ls ∧ ls.length ≤ 20), ?_, ?_⟩
    · try walk_at "go"
      intro d H1 d3 b1 p1
      have bb1 : But p H H1 := (same_but SH0).trans b1
      have oF1 := b1 _ _ nF oF
      try walk_at "go"
      refine ite2 (fun c => ?_) (fun c => ?_)
      · try walk_at "go"
        intro e H2 e5 b2 p2
        have bb2 := bb1.trans b2
        have oF2 := b2 _ _ nF oF1
        try walk_at "go"
        refine for_range (lo := 0) (n := 1 + e) (fun i σ H' => Kept (∃ (v3 v4 v5 : Option V) (ts : List Addr) (ls : List (Nat × Nat)), σ = [some (.ref p), some (.int (k : Nat)), some (.ref F), v3, v4, v5] ∧ But p H H' ∧ PotAt H' p ∧ H' F = some (.lst (ts.map V.ref)) ∧ PtsAt H' ts ls ∧ Plcs k ls ∧ ls.length ≤ 2 * i)) ⟨_, _, _, [], [], rfl, bb2, p2, oF2, ⟨rfl, fun j t p h => by simp at h⟩, fun q hq => absurd hq List.not_mem_nil, by simp⟩ ?_ ?_
        · rintro i σ H3 hi ⟨v3, v4, v5, ts, ls, rfl, b3, p3, f3, t3, l3, n3⟩
          try walk_at "go"
          intro s H4 s4 b4 p4
          have bb4 := b3.trans b4
          have f4 := b4 _ _ nF f3
          have t4 := t3.keep (pot_keep b4 p3)
          try walk_at "go"
          refine .inr ⟨_, rfl, ?_⟩
          obtain ⟨u, eu, hu⟩ : ∃ u : Int, u = (if decide ((0 : Int) < (s : Int)) = true then (1 : Int) else 0) ∧ ((s = 0 ∧ u = 0) ∨ (0 < s ∧ u = 1)) := by
            refine ⟨_, rfl, ?_⟩
            by_cases c : s = 0
            · exact .inl ⟨c, by rw [c]; rfl⟩
            · exact .inr ⟨by omega, by rw [if_pos (decide_eq_true (by omega))]⟩
          rw [← eu]
          have dv : CDivW (1 * 2 ^ (k : Int).toNat) (1 + u) := ⟨by rcases hu with ⟨_, g⟩ | ⟨_, g⟩ <;> rw [g] <;> decide, by rcases hu with ⟨_, g⟩ | ⟨_, g⟩ <;> rw [g] <;> exact Nat.lt_trans (log_lt (n := 10) (by decide) (by decide)) (by decide)⟩
          obtain ⟨w, ew, w1, w16, wp⟩ : ∃ w : Nat, (if 1 * 2 ^ (k : Int).toNat / (1 + u) > 1 then 1 * 2 ^ (k : Int).toNat / (1 + u) else 1) = (w : Int) ∧ 1 ≤ w ∧ w ≤ 16 ∧ ∀ n, n < w → Plc k s n := by
            rcases hu with ⟨g, h⟩ | ⟨g, h⟩
            · refine ⟨2 ^ k, ?_, e1, e16, fun n hn => ⟨by omega, by rw [if_pos g]; exact hn⟩⟩
              rw [h, eL, show (1 : Int) + 0 = 1 from rfl, Int.ediv_one]
              split <;> omega
            · have e2 : 2 ^ k = 2 * (2 ^ k / 2) := by
                obtain ⟨m, em⟩ : ∃ m, k = m + 1 := ⟨k - 1, by omega⟩
                rw [em, Nat.pow_succ]
                omega
              refine ⟨2 ^ k / 2, ?_, by omega, by omega, fun n hn => ⟨by omega, by rw [if_neg (by omega)]; exact hn⟩⟩
              rw [h, eL, show (1 : Int) + 1 = 2 from rfl]
              split <;> omega
          try walk_at "go"
          rw [ew]
          intro n H5 n5 b5 p5
          have bb5 := bb4.trans b5
          have f5 := b5 _ _ nF f4
          have t5 := t4.keep (pot_keep b5 p4)
          try walk_at "go"
          intro z hz
          generalize eH6 : upd _ z _ = H6
          have SH6 := newS eH6 hz
          have oz := newO eH6
          have p6 := p5.same SH6
          have f6 := SH6 _ _ f5
          try walk_at "go"
          intro y hy
          generalize eH7 : upd _ y _ = H7
          have SH7 := newS eH7 hy
          have oy := newO eH7
          have p7 := p6.same SH7
          have f7 := SH7 _ _ f6
          have nY : y ≠ p := pot_ne p6 hy
          try walk_at "go"
          intro g H8 g6 b8 p8
          have oY8 := b8 _ _ nY oy
          have f8 := b8 _ _ nF f7
          have oZ8 := pot_keep b8 p7 _ _ (SH7 _ _ oz)
          have t8 := ((t5.same SH6).same SH7).keep (pot_keep b8 p7)
          have bb8 := (bb5.trans (same_but (SH6.trans SH7))).trans b8
          try walk_at "go"
          refine .inr ⟨_, rfl, ?_⟩
          obtain ⟨u2, eu2, hu2⟩ : ∃ u2 : Nat, (if decide (V.int (g : Nat) = V.int 0) = true then (1 : Int) else 0) = (u2 : Nat) ∧ u2 ≤ 1 := by
            split
            · exact ⟨1, rfl, Nat.le_refl _⟩
            · exact ⟨0, rfl, Nat.zero_le _⟩
          rw [eu2]
          try walk_at "go"
          intro X hX
          generalize eH9 : upd _ X _ = H9
          have SH9 := newS eH9 hX
          have oX := newO eH9
          have p9 := p8.same SH9
          have f9 := SH9 _ _ f8
          have em : (List.replicate (1 + (u2 : Int)).toNat [V.ref z]).flatten = (List.replicate (1 + u2) z).map V.ref := by
            rw [show (1 + (u2 : Int)).toNat = 1 + u2 by omega]
            rcases (by omega : u2 = 0 ∨ u2 = 1) with rfl | rfl <;> rfl
          have lt : ts.length ≤ 20 := by have := t8.1; omega
          try walk_at "go"
          rw [em]
          refine ⟨Nat.le_trans (show _ ≤ 30 by rw [List.length_map, List.length_map, List.length_replicate]; omega) (by decide), ?_⟩
          generalize e10 : upd H9 F _ = H10
          have b10 : But F H9 H10 := e10 ▸ But.upd
          have nz : ∀ {a : Addr} {xs : List V}, H9 a = some (.tup xs) → H10 a = some (.tup xs) := fun {a xs} h => b10 _ _ (ne_of h f9 (fun z => by cases z)) h
          have hF0 : H F = none := hF
          refine ⟨⟨_, _, _, ts ++ List.replicate (1 + u2) z, ls ++ List.replicate (1 + u2) (s, n), rfl, fun x o nx hx => b10 _ _ (ne_of_none hx hF0) ((bb8.trans (same_but SH9)) x o nx hx), ?_, ?_, ?_, fun q hq => ?_, ?_⟩⟩
          · obtain ⟨a, b, h1, h2⟩ := p9
            exact ⟨a, b, b10 _ _ (Ne.symm nF) h1, h2⟩
          · rw [← e10, upd_same, List.map_append]
          · refine PtsAt.app ((t8.same SH9).keep fun t xs h => nz h) ⟨by rw [List.length_replicate, List.length_replicate], fun j t q h1 h2 => ?_⟩
            rw [List.getElem?_replicate] at h1 h2
            by_cases c : j < 1 + u2
            · rw [if_pos c] at h1 h2
              cases h1; cases h2
              exact nz (SH9 _ _ oZ8)
            · rw [if_neg c] at h1; cases h1
          · rcases List.mem_append.mp hq with w | w
            · exact l3 q w
            · rw [(List.mem_replicate.mp w).2]
              exact wp n (by omega)
          · rw [List.length_append, List.length_replicate]
            omega
        · rintro σ H3 ⟨v3, v4, v5, ts, ls, rfl, b3, p3, f3, t3, l3, n3⟩
          exact ⟨_, _, _, ts, ls, rfl, b3, p3, f3, t3, l3, by omega⟩
      · try walk_at "go"
        exact ⟨⟨_, _, _, [], [], rfl, bb1, p1, oF1, ⟨rfl, fun j t p h => by simp at h⟩, fun q hq => absurd hq List.not_mem_nil, Nat.zero_le _⟩⟩
    rintro σ H1 ⟨v3, v4, v5, ts, ls, rfl, b1, p1, f1, t1, l1, n1⟩
    try walk_at "go"
    intro a ha
    generalize eH2 : upd _ a _ = H2
    have SH2 := newS eH2 ha
    have oa := newO eH2
    exact q a ls H2 (b1.trans (same_but SH2)) (p1.same SH2) ⟨ts, oa, t1.same SH2⟩ l1 n1
/-! SPLIT -/
/-! ### k55, plain: what waits where -/
def gA (As : List (Nat × Nat × Dd)) (n : Nat) : Nat × Nat × Dd := As.getD n (0, 0, ⟨0, none, none⟩)
def fA (As : List (Nat × Nat × Dd)) (ns : List Nat) (v : Int) : Int := ns.foldl (fun v n => (gA As n).2.2.ap v) v
/-- what is known of the asks that wait -/
structure Gh (st : NS) (As : List (Nat × Nat × Dd)) : Prop where
  as : st.asked = As.map fun x => x.2
  hd : ∀ x ∈ As, x.1 < 2 ^ st.k
  bx : ∀ j l, ∀ it ∈ st.rows j l, ∀ n ∈ it.ns, (gA As n).2.1 = it.box
  ln : ∀ j l, ∀ it ∈ st.rows j l, (∀ n ∈ it.ns, (gA As n).1 % 2 ^ (st.k - j) = l % 2 ^ (st.k - j)) ∧ l / 2 ^ (st.k - j) = it.box % 2 ^ st.k / 2 ^ (st.k - j)
  dd : ∀ j l, ∀ it ∈ st.rows j l, it.d.Ok ∧ ∀ v, it.d.ap v = fA As it.ns v
  rm : ∀ j l, 1 ≤ j → (st.rows j l).length ≤ st.room
  kp : ∀ s n, joinsS st s n ≤ st.kept
  z0 : ∀ l, ∀ it ∈ st.rows 0 l, ∃ n, it.ns = [n]
  up : ∀ l, (st.rows 0 l).Pairwise fun a b => a.ns.headD 0 < b.ns.headD 0
  tl : ∀ m, wl (fun it => it.ns.tail.count m) st.k st.rows ≤ (st.prs.map fun p => p.2.2).count m
  pl : ∀ p ∈ st.prs, 1 ≤ p.1 ∧ p.1 ≤ st.k ∧ p.2.1 < 2 ^ st.k / 2
omit B in
theorem ln_key : ∀ (k s : Fin 5) (n : Fin 8) (f : Fin 2) (g : Fin 16), (1 ≤ s.1 ∧ s.1 ≤ k.1 ∧ n.1 < 2 ^ k.1 / 2 ∧ g.1 < 2 ^ k.1) → lnS k.1 s.1 n.1 f.1 / 2 ^ (k.1 - (s.1 - 1)) = g.1 / 2 ^ (k.1 - (s.1 - 1)) → lnS k.1 s.1 n.1 (g.1 / 2 ^ (k.1 - s.1) % 2) / 2 ^ (k.1 - s.1) = g.1 / 2 ^ (k.1 - s.1) := by decide +kernel
omit B in
theorem ln_low : ∀ (k s : Fin 5) (n : Fin 8) (f g : Fin 2), (1 ≤ s.1 ∧ s.1 ≤ k.1 ∧ n.1 < 2 ^ k.1 / 2) → lnS k.1 s.1 n.1 g.1 % 2 ^ (k.1 - s.1) = lnS k.1 s.1 n.1 f.1 % 2 ^ (k.1 - s.1) := by decide +kernel
omit B in
theorem out_line {k s n f b : Nat} (hk : k ≤ 4) (h1 : 1 ≤ s) (h2 : s ≤ k) (hn : n < 2 ^ k / 2) (hf : f < 2) (e : lnS k s n f / 2 ^ (k - (s - 1)) = b % 2 ^ k / 2 ^ (k - (s - 1))) : outS k s n b / 2 ^ (k - s) = b % 2 ^ k / 2 ^ (k - s) ∧ outS k s n b % 2 ^ (k - s) = lnS k s n f % 2 ^ (k - s) := by
  have p : 2 ^ k ≤ 2 ^ 4 := Nat.pow_le_pow_right (by decide) hk
  have g : b % 2 ^ k < 2 ^ k := Nat.mod_lt _ (Nat.two_pow_pos k)
  exact ⟨ln_key ⟨k, by omega⟩ ⟨s, by omega⟩ ⟨n, by omega⟩ ⟨f, hf⟩ ⟨b % 2 ^ k, by omega⟩ ⟨h1, h2, hn, g⟩ e, ln_low ⟨k, by omega⟩ ⟨s, by omega⟩ ⟨n, by omega⟩ ⟨f, hf⟩ ⟨b % 2 ^ k / 2 ^ (k - s) % 2, Nat.mod_lt _ (by decide)⟩ ⟨h1, h2, hn⟩⟩
omit B in
theorem mod_less {k s h l : Nat} (h1 : 1 ≤ s) (h2 : s ≤ k) (e : h % 2 ^ (k - (s - 1)) = l % 2 ^ (k - (s - 1))) : h % 2 ^ (k - s) = l % 2 ^ (k - s) := by
  have d : 2 ^ (k - s) ∣ 2 ^ (k - (s - 1)) := Nat.pow_dvd_pow 2 (by omega)
  rw [← Nat.mod_mod_of_dvd h d, ← Nat.mod_mod_of_dvd l d, e]
omit B in
theorem fA_app (As : List (Nat × Nat × Dd)) (xs ys : List Nat) (v : Int) : fA As (xs ++ ys) v = fA As ys (fA As xs v) := by
  unfold fA
  rw [List.foldl_append]
omit B in
theorem joins_app {st : NS} {p : Nat × Nat × Nat} (s n : Nat) : joinsS { st with prs := st.prs ++ [p] } s n = joinsS st s n + if p.1 = s ∧ p.2.1 = n then 1 else 0 := by
  unfold joinsS
  rw [List.filter_append, List.length_append]
  by_cases c : p.1 = s ∧ p.2.1 = n
  · rw [if_pos c, List.filter_cons, if_pos (by rw [decide_eq_true c.1, decide_eq_true c.2]; rfl)]
    rfl
  · have : (decide (p.1 = s) && decide (p.2.1 = n)) = false := by
      rw [Bool.and_eq_false_iff, decide_eq_false_iff_not, decide_eq_false_iff_not]
      by_cases q : p.1 = s
      · exact .inr fun y => c ⟨q, y⟩
      · exact .inl q
    rw [if_neg c, List.filter_cons, this]
    rfl
omit B in
/-- a switch's in-line, once more -/
theorem Gh.hand1 {st : NS} {s n f : Nat} {As : List (Nat × Nat × Dd)} (i : Iv st) (h : Gh st As) (h1 : 1 ≤ s) (h2 : s ≤ st.k) (hn : n < 2 ^ st.k / 2) (hf : f < 2) : Gh (hand1 st s n f) As := by
  have hk := i.wf.k4
  have hl := lnS_lt hk h1 h2 hn hf
  rcases hand1_cases st s n f with e | ⟨it, its, e, ⟨ro, e2⟩ | ⟨j, ej, jk, e2⟩⟩
  · rw [e]; exact h
  · rw [e2]
    have ho := outS_lt (b := it.box) hk h1 h2 hn
    have itm : it ∈ st.rows (s - 1) (lnS st.k s n f) := by rw [e]; exact List.mem_cons_self
    -- an item of the new rows
    have old : ∀ a b, ∀ x ∈ rwU (rwU st.rows s (outS st.k s n it.box) (st.rows s (outS st.k s n it.box) ++ [it])) (s - 1) (lnS st.k s n f) its a b, x ∈ st.rows a b ∨ (x = it ∧ a = s ∧ b = outS st.k s n it.box) := fun a b x hx => by
      by_cases c1 : a = s - 1 ∧ b = lnS st.k s n f
      · obtain ⟨rfl, rfl⟩ := c1
        rw [rwU_at] at hx
        exact .inl (by rw [e]; exact List.mem_cons_of_mem _ hx)
      · rw [rwU_ne c1] at hx
        by_cases c2 : a = s ∧ b = outS st.k s n it.box
        · obtain ⟨rfl, rfl⟩ := c2
          rw [rwU_at] at hx
          rcases List.mem_append.mp hx with g | g
          · exact .inl g
          · exact .inr ⟨List.mem_singleton.mp g, rfl, rfl⟩
        · rw [rwU_ne c2] at hx
          exact .inl hx
    have z : ∀ l, rwU (rwU st.rows s (outS st.k s n it.box) (st.rows s (outS st.k s n it.box) ++ [it])) (s - 1) (lnS st.k s n f) its 0 l = st.rows 0 l ∨ (s = 1 ∧ l = lnS st.k s n f ∧ rwU (rwU st.rows s (outS st.k s n it.box) (st.rows s (outS st.k s n it.box) ++ [it])) (s - 1) (lnS st.k s n f) its 0 l = its) := fun l => by
      by_cases c1 : 0 = s - 1 ∧ l = lnS st.k s n f
      · refine .inr ⟨by omega, c1.2, ?_⟩
        rw [c1.2, c1.1, rwU_at]
      · rw [rwU_ne c1, rwU_ne (fun y => by omega)]
        exact .inl rfl
    refine ⟨h.as, h.hd, fun a b x hx => ?_, fun a b x hx => ?_, fun a b x hx => ?_, fun a b ha => ?_, h.kp, fun l x hx => ?_, fun l => ?_, fun m => ?_, h.pl⟩
    · rcases old a b x hx with g | ⟨g, _, _⟩
      · exact h.bx a b x g
      · rw [g]; exact h.bx _ _ it itm
    · rcases old a b x hx with g | ⟨g, ga, gb⟩
      · exact h.ln a b x g
      · obtain ⟨l1, l2⟩ := h.ln _ _ it itm
        obtain ⟨o1, o2⟩ := out_line hk h1 h2 hn hf l2
        rw [g, ga, gb]
        exact ⟨fun y hy => (mod_less h1 h2 (l1 y hy)).trans o2.symm, o1⟩
    · rcases old a b x hx with g | ⟨g, _, _⟩
      · exact h.dd a b x g
      · rw [g]; exact h.dd _ _ it itm
    · show (rwU _ _ _ _ a b).length ≤ st.room
      by_cases c1 : a = s - 1 ∧ b = lnS st.k s n f
      · obtain ⟨rfl, rfl⟩ := c1
        rw [rwU_at]
        have := h.rm (s - 1) (lnS st.k s n f) ha
        rw [e, List.length_cons] at this
        omega
      · rw [rwU_ne c1]
        by_cases c2 : a = s ∧ b = outS st.k s n it.box
        · obtain ⟨rfl, rfl⟩ := c2
          rw [rwU_at, List.length_append, List.length_singleton]
          omega
        · rw [rwU_ne c2]
          exact h.rm a b ha
    · have hx : x ∈ rwU _ _ _ _ 0 l := hx
      rcases z l with g | ⟨q1, q2, g⟩
      · rw [g] at hx; exact h.z0 l x hx
      · have hx2 : x ∈ its := g ▸ hx
        subst q1
        exact h.z0 _ x (by rw [show (0 : Nat) = 1 - 1 from rfl, e]; exact List.mem_cons_of_mem _ hx2)
    · show (rwU _ _ _ _ 0 l).Pairwise _
      rcases z l with g | ⟨q1, q2, g⟩
      · rw [g]; exact h.up l
      · rw [g]
        subst q1
        have := h.up (lnS st.k 1 n f)
        rw [show (0 : Nat) = 1 - 1 from rfl, e] at this
        exact (List.pairwise_cons.mp this).2
    · show wl _ st.k (rwU _ _ _ _) ≤ _
      rw [wl_move _ h1 h2 hl ho e]
      exact h.tl m
  · rw [e2]
    have ho := outS_lt (b := it.box) hk h1 h2 hn
    have itm : it ∈ st.rows (s - 1) (lnS st.k s n f) := by rw [e]; exact List.mem_cons_self
    obtain ⟨jl, jb⟩ := alkS_get ej
    have W := fun g nw => wl_join g (nw := nw) h1 h2 hl ho e jl
    generalize eo : (st.rows s (outS st.k s n it.box)).getD j ⟨0, ⟨0, none, none⟩, []⟩ = o at W jb ⊢
    have om : o ∈ st.rows s (outS st.k s n it.box) := by rw [← eo, List.getD_eq_getElem?_getD, List.getElem?_eq_getElem jl]; exact List.getElem_mem jl
    have old : ∀ a b, ∀ x ∈ rwU (rwU st.rows s (outS st.k s n it.box) ((st.rows s (outS st.k s n it.box)).set j ⟨it.box, beh o.d it.d, o.ns ++ it.ns⟩)) (s - 1) (lnS st.k s n f) its a b, x ∈ st.rows a b ∨ (x = ⟨it.box, beh o.d it.d, o.ns ++ it.ns⟩ ∧ a = s ∧ b = outS st.k s n it.box) := fun a b x hx => by
      by_cases c1 : a = s - 1 ∧ b = lnS st.k s n f
      · obtain ⟨rfl, rfl⟩ := c1
        rw [rwU_at] at hx
        exact .inl (by rw [e]; exact List.mem_cons_of_mem _ hx)
      · rw [rwU_ne c1] at hx
        by_cases c2 : a = s ∧ b = outS st.k s n it.box
        · obtain ⟨rfl, rfl⟩ := c2
          rw [rwU_at] at hx
          rcases List.mem_or_eq_of_mem_set hx with g | g
          · exact .inl g
          · exact .inr ⟨g, rfl, rfl⟩
        · rw [rwU_ne c2] at hx
          exact .inl hx
    have z : ∀ l, rwU (rwU st.rows s (outS st.k s n it.box) ((st.rows s (outS st.k s n it.box)).set j ⟨it.box, beh o.d it.d, o.ns ++ it.ns⟩)) (s - 1) (lnS st.k s n f) its 0 l = st.rows 0 l ∨ (s = 1 ∧ l = lnS st.k s n f ∧ rwU (rwU st.rows s (outS st.k s n it.box) ((st.rows s (outS st.k s n it.box)).set j ⟨it.box, beh o.d it.d, o.ns ++ it.ns⟩)) (s - 1) (lnS st.k s n f) its 0 l = its) := fun l => by
      by_cases c1 : 0 = s - 1 ∧ l = lnS st.k s n f
      · refine .inr ⟨by omega, c1.2, ?_⟩
        rw [c1.2, c1.1, rwU_at]
      · rw [rwU_ne c1, rwU_ne (fun y => by omega)]
        exact .inl rfl
    have hns : it.ns ≠ [] := (i.its _ _ it itm).2
    have ons : o.ns ≠ [] := (i.its _ _ o om).2
    refine ⟨h.as, h.hd, fun a b x hx => ?_, fun a b x hx => ?_, fun a b x hx => ?_, fun a b ha => ?_, fun s' n' => ?_, fun l x hx => ?_, fun l => ?_, fun m => ?_, fun p hp => ?_⟩
    · rcases old a b x hx with g | ⟨g, _, _⟩
      · exact h.bx a b x g
      · rw [g]
        intro y hy
        rcases List.mem_append.mp hy with w | w
        · exact (h.bx _ _ o om y w).trans jb
        · exact h.bx _ _ it itm y w
    · rcases old a b x hx with g | ⟨g, ga, gb⟩
      · exact h.ln a b x g
      · obtain ⟨l1, l2⟩ := h.ln _ _ it itm
        obtain ⟨o1, o2⟩ := out_line hk h1 h2 hn hf l2
        obtain ⟨l3, _⟩ := h.ln _ _ o om
        rw [g, ga, gb]
        refine ⟨fun y hy => ?_, o1⟩
        rcases List.mem_append.mp hy with w | w
        · exact l3 y w
        · exact (mod_less h1 h2 (l1 y w)).trans o2.symm
    · rcases old a b x hx with g | ⟨g, _, _⟩
      · exact h.dd a b x g
      · rw [g]
        obtain ⟨d1, d2⟩ := h.dd _ _ it itm
        obtain ⟨d3, d4⟩ := h.dd _ _ o om
        exact ⟨beh_ok d3 d1, fun v => by show (beh o.d it.d).ap v = fA As (o.ns ++ it.ns) v; rw [beh_ap d3 d1, fA_app, d4, d2]⟩
    · show (rwU _ _ _ _ a b).length ≤ st.room
      by_cases c1 : a = s - 1 ∧ b = lnS st.k s n f
      · obtain ⟨rfl, rfl⟩ := c1
        rw [rwU_at]
        have := h.rm (s - 1) (lnS st.k s n f) ha
        rw [e, List.length_cons] at this
        omega
      · rw [rwU_ne c1]
        by_cases c2 : a = s ∧ b = outS st.k s n it.box
        · obtain ⟨rfl, rfl⟩ := c2
          rw [rwU_at, List.length_set]
          exact h.rm a _ ha
        · rw [rwU_ne c2]
          exact h.rm a b ha
    · have e3 : joinsS { st with rows := rwU (rwU st.rows s (outS st.k s n it.box) ((st.rows s (outS st.k s n it.box)).set j ⟨it.box, beh o.d it.d, o.ns ++ it.ns⟩)) (s - 1) (lnS st.k s n f) its, prs := st.prs ++ [(s, n, it.ns.headD 0)] } s' n' = joinsS st s' n' + if s = s' ∧ n = n' then 1 else 0 := joins_app (st := st) (p := (s, n, it.ns.headD 0)) s' n'
      rw [e3]
      by_cases c : s = s' ∧ n = n'
      · rw [if_pos c, ← c.1, ← c.2]
        exact jk
      · rw [if_neg c]
        exact h.kp s' n'
    · have hx : x ∈ rwU _ _ _ _ 0 l := hx
      rcases z l with g | ⟨q1, q2, g⟩
      · rw [g] at hx; exact h.z0 l x hx
      · have hx2 : x ∈ its := g ▸ hx
        subst q1
        exact h.z0 _ x (by rw [show (0 : Nat) = 1 - 1 from rfl, e]; exact List.mem_cons_of_mem _ hx2)
    · show (rwU _ _ _ _ 0 l).Pairwise _
      rcases z l with g | ⟨q1, q2, g⟩
      · rw [g]; exact h.up l
      · rw [g]
        subst q1
        have := h.up (lnS st.k 1 n f)
        rw [show (0 : Nat) = 1 - 1 from rfl, e] at this
        exact (List.pairwise_cons.mp this).2
    · have w := W (fun it => it.ns.tail.count m) ⟨it.box, beh o.d it.d, o.ns ++ it.ns⟩
      show wl _ st.k (rwU _ _ _ _) ≤ ((st.prs ++ [(s, n, it.ns.headD 0)]).map fun p => p.2.2).count m
      rw [List.map_append, List.count_append]
      have t1 := h.tl m
      have e3 : (o.ns ++ it.ns).tail.count m = o.ns.tail.count m + it.ns.count m := by
        cases eo2 : o.ns with
        | nil => exact absurd eo2 ons
        | cons a b => rw [List.cons_append, List.tail_cons, List.tail_cons, List.count_append]
      have e4 : it.ns.count m = it.ns.tail.count m + [it.ns.headD 0].count m := by
        cases ei : it.ns with
        | nil => exact absurd ei hns
        | cons a b => rw [List.tail_cons, List.headD_cons, List.count_cons, List.count_singleton]
      have e5 : [(s, n, it.ns.headD 0)].map (fun p : Nat × Nat × Nat => p.2.2) = [it.ns.headD 0] := rfl
      rw [e5]
      dsimp only at w
      rw [e3] at w
      omega
    · rcases List.mem_append.mp hp with g | g
      · exact h.pl p g
      · rw [List.mem_singleton.mp g]
        exact ⟨h1, h2, hn⟩
omit B in
theorem Gh.hand {st : NS} {s n : Nat} {As : List (Nat × Nat × Dd)} (i : Iv st) (h : Gh st As) (h1 : 1 ≤ s) (h2 : s ≤ st.k) (hn : n < 2 ^ st.k / 2) : Gh (handS st s n) As := by
  have a := i.hand1 (f := st.now % 2) h1 h2 hn (Nat.mod_lt _ (by decide))
  have e := (hand1_k st s n (st.now % 2)).1
  exact Gh.hand1 a (Gh.hand1 i h h1 h2 hn (Nat.mod_lt _ (by decide))) h1 (by rw [e]; exact h2) (by rw [e]; exact hn) (by omega)
omit B in
theorem wl_pop (g : Itm → Nat) {k j l : Nat} {r : Nat → Nat → List Itm} {it : Itm} {its : List Itm} (hj : j ≤ k) (hl : l < 2 ^ k) (e : r j l = it :: its) : wl g k (rwU r j l its) + g it = wl g k r := by
  have a := wl_upd g (r := r) its hj hl
  rw [e] at a
  have c : rs g (it :: its) = g it + rs g its := rfl
  omega
omit B in
theorem rs_mono {g h : Itm → Nat} (e : ∀ it, g it ≤ h it) : ∀ L : List Itm, rs g L ≤ rs h L
  | [] => Nat.le_refl _
  | x :: L => Nat.add_le_add (e x) (rs_mono e L)
omit B in
theorem sm_mono {f g : Nat → Nat} (e : ∀ i, f i ≤ g i) : ∀ n, sm n f ≤ sm n g
  | 0 => Nat.le_refl _
  | n + 1 => Nat.add_le_add (sm_mono e n) (e n)
omit B in
theorem wl_mono {g h : Itm → Nat} {k : Nat} {r : Nat → Nat → List Itm} (e : ∀ it, g it ≤ h it) : wl g k r ≤ wl h k r := sm_mono (fun _ => sm_mono (fun _ => rs_mono e _) _) _
omit B in
theorem Gh.take {st : NS} {l : Nat} {As : List (Nat × Nat × Dd)} (h : Gh st As) (hl : l < 2 ^ st.k) : Gh (takeS st l) As := by
  unfold takeS
  split
  · exact h
  · next it its e =>
    obtain ⟨s0, es0⟩ : ∃ s0 : NS, s0 = { st with rows := fun j m => if j = st.k ∧ m = l then its else st.rows j m } := ⟨_, rfl⟩
    have er : s0.rows = rwU st.rows st.k l its := by rw [es0]; rfl
    have e1 : s0.k = st.k ∧ s0.asked = st.asked ∧ s0.prs = st.prs ∧ s0.room = st.room ∧ s0.kept = st.kept := by rw [es0]; exact ⟨rfl, rfl, rfl, rfl, rfl⟩
    rw [← es0]
    obtain ⟨k1, k2, k3, k4, k5⟩ := e1
    obtain ⟨f1, f2, f3⟩ := fold_end it.ns s0
    obtain ⟨g1, g2, g3, g4, g5, g6⟩ := fold_rows it.ns s0
    have old : ∀ a b, ∀ x ∈ rwU st.rows st.k l its a b, x ∈ st.rows a b := fun a b x hx => by
      by_cases c : a = st.k ∧ b = l
      · obtain ⟨rfl, rfl⟩ := c
        rw [rwU_at] at hx
        rw [e]
        exact List.mem_cons_of_mem _ hx
      · rw [rwU_ne c] at hx
        exact hx
    refine ⟨?_, ?_, ?_, ?_, ?_, ?_, ?_, ?_, ?_, ?_, ?_⟩
    · rw [f2, k2]; exact h.as
    · rw [f1, k1]; exact h.hd
    · rw [g1, er]; exact fun a b x hx => h.bx a b x (old a b x hx)
    · rw [g1, er, f1, k1]; exact fun a b x hx => h.ln a b x (old a b x hx)
    · rw [g1, er]; exact fun a b x hx => h.dd a b x (old a b x hx)
    · rw [g1, er, g5, k4]
      intro a b ha
      by_cases c : a = st.k ∧ b = l
      · have q := h.rm st.k l (c.1 ▸ ha)
        rw [c.1, c.2, rwU_at]
        rw [e, List.length_cons] at q
        omega
      · rw [rwU_ne c]; exact h.rm a b ha
    · intro s n
      have : joinsS (it.ns.foldl endS s0) s n = joinsS st s n := by unfold joinsS; rw [g2, k3]
      rw [this, g6, k5]
      exact h.kp s n
    · rw [g1, er]; exact fun b x hx => h.z0 b x (old 0 b x hx)
    · rw [g1, er]
      intro b
      by_cases c : 0 = st.k ∧ b = l
      · have q := h.up l
        rw [c.2, c.1, rwU_at]
        rw [c.1, e] at q
        exact (List.pairwise_cons.mp q).2
      · rw [rwU_ne c]; exact h.up b
    · intro m
      rw [g1, er, f1, k1, g2, k3]
      have := wl_pop (fun it => it.ns.tail.count m) (Nat.le_refl st.k) hl e
      have t := h.tl m
      omega
    · rw [g2, k3, f1, k1]; exact h.pl
omit B in
theorem Gh.now_ {st : NS} {As : List (Nat × Nat × Dd)} (h : Gh st As) : Gh { st with now := st.now + 1 } As := ⟨h.as, h.hd, h.bx, h.ln, h.dd, h.rm, h.kp, h.z0, h.up, h.tl, h.pl⟩
omit B in
/-- joinings are forgotten when their asks have gone -/
theorem Gh.go0 {st : NS} {As : List (Nat × Nat × Dd)} (i : Iv st) (h : Gh st As) : Gh (go0 st) As := by
  refine ⟨h.as, h.hd, h.bx, h.ln, h.dd, h.rm, fun s n => Nat.le_trans ?_ (h.kp s n), h.z0, h.up, fun m => ?_, fun p hp => h.pl p (List.mem_filter.mp hp).1⟩
  · show (((st.prs.filter fun p => !fgtS { st with now := st.now + 1 } p).filter fun x => decide (x.1 = s) && decide (x.2.1 = n)).length) ≤ (st.prs.filter _).length
    exact (List.Sublist.filter _ List.filter_sublist).length_le
  · show wl _ st.k st.rows ≤ ((st.prs.filter fun p => !fgtS { st with now := st.now + 1 } p).map fun p => p.2.2).count m
    by_cases c : m < st.asked.length ∧ m ∈ st.ord
    · have z : wl (fun it => it.ns.tail.count m) st.k st.rows = 0 := by
        have a := i.cnt m
        have b := List.count_pos_iff.mpr c.2
        rw [if_pos c.1] at a
        have le : wl (fun it => it.ns.tail.count m) st.k st.rows ≤ wl (fun it => it.ns.count m) st.k st.rows := wl_mono fun it => by
          cases it.ns with
          | nil => exact Nat.le_refl _
          | cons a b => rw [List.tail_cons, List.count_cons]; omega
        omega
      rw [z]
      exact Nat.zero_le _
    · refine Nat.le_trans (h.tl m) (Nat.le_of_eq ?_)
      have : ∀ ps : List (Nat × Nat × Nat), (∀ p ∈ ps, p ∈ st.prs) → (ps.map fun p => p.2.2).count m = ((ps.filter fun p => !fgtS { st with now := st.now + 1 } p).map fun p => p.2.2).count m := fun ps => by
        induction ps with
        | nil => exact fun _ => rfl
        | cons p ps ih =>
          intro hp
          have ih := ih fun q hq => hp q (List.mem_cons_of_mem _ hq)
          rw [List.map_cons, List.count_cons, List.filter_cons, ih]
          by_cases e : p.2.2 = m
          · have pm := (i.thr p (hp p List.mem_cons_self)).1
            rw [e] at pm
            have nm : m ∉ st.ord := fun z => c ⟨pm, z⟩
            have fg : fgtS { st with now := st.now + 1 } p = false := by
              unfold fgtS
              show (match st.ends.getD p.2.2 none with | none => false | some e => decide (st.k + e < st.now + 1 + p.1)) = false
              rw [e, ((i.ie m pm).2 nm).1]
            rw [fg]
            show _ = List.count m ((p :: _).map _)
            rw [List.map_cons, List.count_cons]
          · have ne : (p.2.2 == m) = false := beq_eq_false_iff_ne.mpr e
            cases fgtS { st with now := st.now + 1 } p with
            | false =>
              show _ = List.count m ((p :: _).map _)
              rw [List.map_cons, List.count_cons]
            | true =>
              rw [ne]
              rfl
      exact this st.prs fun _ h => h
omit B in
theorem Gh.go {st : NS} {As : List (Nat × Nat × Dd)} (i : Iv st) (h : Gh st As) (ls : List (Nat × Nat)) : Gh (goS st ls) As := by
  have h0 := Gh.go0 i h
  have i0 := i.go0
  have t := foldl_iv (goT ls) (fun z => (Iv z ∧ Gh z As) ∧ z.k = st.k) (List.range (2 ^ st.k)) (Toy.go0 st) ⟨⟨i0, h0⟩, rfl⟩ fun z l hl hz => by
    have hl := List.mem_range.mp hl
    refine ⟨⟨hz.1.1.goT (by rw [hz.2]; exact hl), ?_⟩, (goT_k ..).trans hz.2⟩
    unfold goT
    split
    · exact hz.1.2
    · exact hz.1.2.take (by rw [hz.2]; exact hl)
  refine (foldl_iv (goR ls) (fun z => (Iv z ∧ Gh z As) ∧ z.k = st.k) (List.range st.k) _ t fun z r hr hz => ?_).1.2
  have hr := List.mem_range.mp hr
  refine ⟨?_, (goR_k ..).trans hz.2⟩
  refine (foldl_iv (goH ls (z.k - r)) (fun y => (Iv y ∧ Gh y As) ∧ y.k = z.k) (List.range (2 ^ z.k / 2)) z ⟨hz.1, rfl⟩ fun y n hn hy => ?_).1
  have hn := List.mem_range.mp hn
  refine ⟨⟨hy.1.1.goH (by rw [hz.2]; omega) (by rw [hy.2]; omega) (by rw [hy.2]; exact hn), ?_⟩, (goH_k ..).trans hy.2⟩
  unfold goH
  split
  · exact hy.1.2
  · exact Gh.hand hy.1.1 hy.1.2 (by rw [hz.2]; omega) (by rw [hy.2]; omega) (by rw [hy.2]; exact hn)
omit B in
theorem gA_app {As : List (Nat × Nat × Dd)} {x : Nat × Nat × Dd} {n : Nat} (h : n < As.length) : gA (As ++ [x]) n = gA As n := by
  unfold gA
  rw [List.getD_eq_getElem?_getD, List.getD_eq_getElem?_getD, List.getElem?_append_left h]
omit B in
theorem gA_last {As : List (Nat × Nat × Dd)} {x : Nat × Nat × Dd} : gA (As ++ [x]) As.length = x := by
  unfold gA
  rw [List.getD_eq_getElem?_getD, List.getElem?_append_right (Nat.le_refl _), Nat.sub_self]
  rfl
omit B in
theorem fA_old {As : List (Nat × Nat × Dd)} {x : Nat × Nat × Dd} : ∀ (ns : List Nat) (v : Int), (∀ n ∈ ns, n < As.length) → fA (As ++ [x]) ns v = fA As ns v
  | [], _, _ => rfl
  | n :: ns, v, h => by
    show fA (As ++ [x]) ns ((gA (As ++ [x]) n).2.2.ap v) = fA As ns ((gA As n).2.2.ap v)
    rw [gA_app (h n List.mem_cons_self)]
    exact fA_old ns _ fun m hm => h m (List.mem_cons_of_mem _ hm)
omit B in
theorem Gh.put {st : NS} {As : List (Nat × Nat × Dd)} {hd b : Nat} {d : Dd} (i : Iv st) (h : Gh st As) (hh : hd < 2 ^ st.k) (hd' : d.Ok) : Gh (putS st hd b d) (As ++ [(hd, b, d)]) := by
  have la : As.length = st.asked.length := by rw [h.as, List.length_map]
  have lt : ∀ a c, ∀ x ∈ st.rows a c, ∀ n ∈ x.ns, n < As.length := fun a c x hx n hn => by rw [la]; exact (i.nlt hx hn).1
  have old : ∀ a c, ∀ x ∈ rwU st.rows 0 hd (st.rows 0 hd ++ [⟨b, d, [st.asked.length]⟩]) a c, x ∈ st.rows a c ∨ (x = ⟨b, d, [st.asked.length]⟩ ∧ a = 0 ∧ c = hd) := fun a c x hx => by
    by_cases q : a = 0 ∧ c = hd
    · obtain ⟨rfl, rfl⟩ := q
      rw [rwU_at] at hx
      rcases List.mem_append.mp hx with g | g
      · exact .inl g
      · exact .inr ⟨List.mem_singleton.mp g, rfl, rfl⟩
    · rw [rwU_ne q] at hx
      exact .inl hx
  have gl : gA (As ++ [(hd, b, d)]) st.asked.length = (hd, b, d) := by rw [← la]; exact gA_last
  unfold putS
  refine ⟨by dsimp only; rw [h.as, List.map_append] <;> rfl, fun x hx => ?_, fun a c x hx => ?_, fun a c x hx => ?_, fun a c x hx => ?_, fun a c ha => ?_, h.kp, fun l x hx => ?_, fun l => ?_, fun m => ?_, h.pl⟩
  · rcases List.mem_append.mp hx with g | g
    · exact h.hd x g
    · rw [List.mem_singleton.mp g]; exact hh
  · rcases old a c x hx with g | ⟨g, _, _⟩
    · exact fun n hn => by rw [gA_app (lt a c x g n hn)]; exact h.bx a c x g n hn
    · rw [g]
      exact fun n hn => by rw [List.mem_singleton.mp hn, gl]
  · rcases old a c x hx with g | ⟨g, ga, gc⟩
    · obtain ⟨l1, l2⟩ := h.ln a c x g
      exact ⟨fun n hn => by rw [gA_app (lt a c x g n hn)]; exact l1 n hn, l2⟩
    · rw [g, ga, gc]
      refine ⟨fun n hn => by rw [List.mem_singleton.mp hn, gl], ?_⟩
      show hd / 2 ^ (st.k - 0) = b % 2 ^ st.k / 2 ^ (st.k - 0)
      rw [Nat.sub_zero, Nat.div_eq_of_lt hh, Nat.div_eq_of_lt (Nat.mod_lt _ (Nat.two_pow_pos _))]
  · rcases old a c x hx with g | ⟨g, _, _⟩
    · obtain ⟨d1, d2⟩ := h.dd a c x g
      exact ⟨d1, fun v => by rw [d2, fA_old _ _ (lt a c x g)]⟩
    · rw [g]
      refine ⟨hd', fun v => ?_⟩
      show d.ap v = (gA (As ++ [(hd, b, d)]) st.asked.length).2.2.ap v
      rw [gl]
  · show (rwU _ _ _ _ a c).length ≤ st.room
    rw [rwU_ne (fun z => by omega)]
    exact h.rm a c ha
  · rcases old 0 l x hx with g | ⟨g, _, _⟩
    · exact h.z0 l x g
    · exact ⟨_, by rw [g]⟩
  · show (rwU _ _ _ _ 0 l).Pairwise _
    by_cases q : 0 = 0 ∧ l = hd
    · rw [q.2, rwU_at]
      refine List.pairwise_append.mpr ⟨h.up hd, List.pairwise_singleton _ _, fun x hx y hy => ?_⟩
      rw [List.mem_singleton.mp hy]
      show x.ns.headD 0 < st.asked.length
      obtain ⟨n, en⟩ := h.z0 hd x hx
      rw [en]
      exact (i.nlt hx (by rw [en]; exact List.mem_singleton.mpr rfl)).1
    · rw [rwU_ne q]; exact h.up l
  · show wl _ st.k (rwU _ _ _ _) ≤ (st.prs.map fun p => p.2.2).count m
    have a := wl_upd (fun it => it.ns.tail.count m) (r := st.rows) (st.rows 0 hd ++ [⟨b, d, [st.asked.length]⟩]) (Nat.zero_le st.k) hh
    rw [rs_app] at a
    have c : rs (fun it => it.ns.tail.count m) [⟨b, d, [st.asked.length]⟩] = 0 := rfl
    have t := h.tl m
    omega
omit B in
theorem Gh.new {k : Nat} {am : List Int} {room kept : Nat} : Gh (netS k am room kept) [] :=
  ⟨rfl, fun x hx => absurd hx List.not_mem_nil, fun _ _ x hx => absurd hx List.not_mem_nil, fun _ _ x hx => absurd hx List.not_mem_nil, fun _ _ x hx => absurd hx List.not_mem_nil, fun _ _ _ => Nat.zero_le _, fun _ _ => Nat.zero_le _, fun _ x hx => absurd hx List.not_mem_nil, fun _ => .nil, fun m => by
    show wl _ k (fun _ _ => []) ≤ 0
    rw [wl_zero fun _ _ => rfl]
    exact Nat.le_refl _, fun p hp => absurd hp List.not_mem_nil⟩
/-- levels and lines, in order -/
def spL (f k m : Nat) : List (Nat × Nat) := (List.range (k + 1 - f)).flatMap fun i => (List.range m).map fun l => (f + i, l)
omit B in
theorem spL_mem {f k m : Nat} {p : Nat × Nat} : p ∈ spL f k m ↔ f ≤ p.1 ∧ p.1 ≤ k ∧ p.2 < m := by
  unfold spL
  constructor
  · intro h
    obtain ⟨i, hi, h2⟩ := List.mem_flatMap.mp h
    obtain ⟨l, hl, e⟩ := List.mem_map.mp h2
    have := List.mem_range.mp hi
    have := List.mem_range.mp hl
    subst e
    exact ⟨Nat.le_add_right _ _, by show f + i ≤ k; omega, by assumption⟩
  · rintro ⟨h1, h2, h3⟩
    exact List.mem_flatMap.mpr ⟨p.1 - f, List.mem_range.mpr (by omega), List.mem_map.mpr ⟨p.2, List.mem_range.mpr h3, Prod.ext (by show f + (p.1 - f) = p.1; omega) rfl⟩⟩
omit B in
theorem rg_count (H : Nat → List Nat) (m : Nat) : ∀ n, ((List.range n).flatMap H).count m = sm n fun j => (H j).count m
  | 0 => rfl
  | n + 1 => by
    rw [List.range_succ, List.flatMap_append, List.count_append, rg_count H m n]
    show _ + ([n].flatMap H).count m = sm n _ + (H n).count m
    rw [List.flatMap_cons, List.flatMap_nil, List.append_nil]
omit B in
theorem spL_count (G : Nat × Nat → List Nat) (m k M : Nat) : ((spL 0 k M).flatMap G).count m = sm (k + 1) fun j => sm M fun l => (G (j, l)).count m := by
  unfold spL
  rw [List.flatMap_assoc, rg_count]
  refine sm_congr fun j _ => ?_
  rw [List.flatMap_map, rg_count]
  exact sm_congr fun l _ => by rw [Nat.zero_add]
omit B in
theorem fm_count (F : Itm → List Nat) (m : Nat) : ∀ L : List Itm, (L.flatMap F).count m = rs (fun it => (F it).count m) L
  | [] => rfl
  | x :: L => by
    rw [List.flatMap_cons, List.count_append, fm_count F m L]
    rfl
/-- all that waits, line by line -/
def onAll (F : Itm → List Nat) (st : NS) : List Nat := (spL 0 st.k (2 ^ st.k)).flatMap fun p => (st.rows p.1 p.2).flatMap F
omit B in
theorem onAll_count (F : Itm → List Nat) (st : NS) (m : Nat) : (onAll F st).count m = wl (fun it => (F it).count m) st.k st.rows := by
  unfold onAll
  rw [spL_count]
  exact sm_congr fun j _ => sm_congr fun l _ => fm_count F m _
omit B in
theorem len_count : ∀ (T S : List Nat), (∀ m, T.count m ≤ S.count m) → T.length ≤ S.length
  | [], _, _ => Nat.zero_le _
  | a :: T, S, h => by
    have ha : a ∈ S := by
      have := h a
      rw [List.count_cons_self] at this
      exact List.count_pos_iff.mp (by omega)
    have ih := len_count T (S.erase a) fun m => by
      have := h m
      rw [List.count_cons] at this
      rw [List.count_erase]
      by_cases c : a = m
      · subst c
        rw [beq_self_eq_true, if_pos rfl] at this ⊢
        omega
      · have ne : (a == m) = false := beq_eq_false_iff_ne.mpr c
        rw [ne] at this
        simp only [Bool.false_eq_true, if_false] at this
        by_cases c2 : (a == m) = true
        · rw [ne] at c2; cases c2
        · rw [if_neg c2]; omega
    have e := List.length_erase_of_mem ha
    have := List.length_pos_iff.mpr (List.ne_nil_of_mem ha)
    rw [List.length_cons]
    omega
omit B in
theorem Gh.more {st : NS} {As : List (Nat × Nat × Dd)} (h : Gh st As) : (onAll (fun it => it.ns.tail) st).length ≤ st.prs.length := by
  have := len_count (onAll (fun it => it.ns.tail) st) (st.prs.map fun p => p.2.2) fun m => by rw [onAll_count]; exact h.tl m
  rw [List.length_map] at this
  exact this
omit B in
theorem Iv.found {st : NS} (h : Iv st) : (st.ord ++ onAll Itm.ns st).Perm (List.range st.asked.length) := by
  refine List.perm_iff_count.mpr fun m => ?_
  rw [List.count_append, onAll_count, List.count_range]
  have := h.cnt m
  have e : (fun it : Itm => (Itm.ns it).count m) = fun it => it.ns.count m := rfl
  rw [e]
  omega
def sumL {α : Type} (F : α → Nat) : List α → Nat
  | [] => 0
  | x :: xs => F x + sumL F xs
omit B in
theorem sumL_add {α : Type} (F G : α → Nat) : ∀ xs, sumL (fun x => F x + G x) xs = sumL F xs + sumL G xs
  | [] => rfl
  | x :: xs => by
    show F x + G x + sumL (fun x => F x + G x) xs = F x + sumL F xs + (G x + sumL G xs)
    rw [sumL_add F G xs]
    omega
omit B in
theorem sumL_ge {α : Type} (F : α → Nat) {x : α} : ∀ {xs : List α}, x ∈ xs → F x ≤ sumL F xs
  | [], h => absurd h List.not_mem_nil
  | y :: xs, h => by
    show F x ≤ F y + sumL F xs
    rcases List.mem_cons.mp h with e | e
    · rw [e]; omega
    · have := sumL_ge F e; omega
omit B in
theorem sum_pairs (qs : List (Nat × Nat)) : ∀ (ps : List (Nat × Nat × Nat)), (∀ p ∈ ps, (p.1, p.2.1) ∈ qs) → ps.length ≤ sumL (fun q => (ps.filter fun x => decide (x.1 = q.1) && decide (x.2.1 = q.2)).length) qs
  | [], _ => Nat.zero_le _
  | p :: ps, h => by
    have ih := sum_pairs qs ps fun x hx => h x (List.mem_cons_of_mem _ hx)
    have e : ∀ q : Nat × Nat, ((p :: ps).filter fun x => decide (x.1 = q.1) && decide (x.2.1 = q.2)).length = (if p.1 = q.1 ∧ p.2.1 = q.2 then 1 else 0) + (ps.filter fun x => decide (x.1 = q.1) && decide (x.2.1 = q.2)).length := fun q => by
      rw [List.filter_cons]
      by_cases c : p.1 = q.1 ∧ p.2.1 = q.2
      · rw [if_pos c, if_pos (by rw [decide_eq_true c.1, decide_eq_true c.2]; rfl), List.length_cons]
        omega
      · have : (decide (p.1 = q.1) && decide (p.2.1 = q.2)) = false := by
          rw [Bool.and_eq_false_iff, decide_eq_false_iff_not, decide_eq_false_iff_not]
          by_cases q : p.1 = q.1
          · exact .inr fun y => c ⟨q, y⟩
          · exact .inl q
        rw [if_neg c, this]
        simp
    have e2 : (fun q : Nat × Nat => ((p :: ps).filter fun x => decide (x.1 = q.1) && decide (x.2.1 = q.2)).length) = fun q => (if p.1 = q.1 ∧ p.2.1 = q.2 then 1 else 0) + (ps.filter fun x => decide (x.1 = q.1) && decide (x.2.1 = q.2)).length := funext e
    rw [e2, sumL_add, List.length_cons]
    have g := sumL_ge (fun q : Nat × Nat => if p.1 = q.1 ∧ p.2.1 = q.2 then 1 else 0) (h p List.mem_cons_self)
    dsimp only at g
    rw [if_pos ⟨rfl, rfl⟩] at g
    omega
omit B in
theorem Gh.sums {st : NS} {As : List (Nat × Nat × Dd)} (h : Gh st As) : st.prs.length ≤ sumL (fun q => joinsS st q.1 q.2) (spL 1 st.k (2 ^ st.k / 2)) := sum_pairs _ _ fun p hp => spL_mem.mpr (h.pl p hp)
/-! SPLIT -/
/-! ### k53, plain: beats enough -/
omit B in
theorem hand1_keep (st : NS) (s n f : Nat) : (hand1 st s n f).ord = st.ord ∧ (hand1 st s n f).asked = st.asked ∧ (hand1 st s n f).room = st.room ∧ (hand1 st s n f).k = st.k ∧ (hand1 st s n f).now = st.now ∧ (hand1 st s n f).ends = st.ends ∧ (hand1 st s n f).ans = st.ans ∧ (hand1 st s n f).am = st.am ∧ (hand1 st s n f).kept = st.kept := by
  rcases hand1_cases st s n f with e | ⟨it, its, e, ⟨_, e2⟩ | ⟨j, ej, _, e2⟩⟩ <;> rw [‹hand1 st s n f = _›] <;> exact ⟨rfl, rfl, rfl, rfl, rfl, rfl, rfl, rfl, rfl⟩
omit B in
theorem handS_keep (st : NS) (s n : Nat) : (handS st s n).ord = st.ord ∧ (handS st s n).asked = st.asked ∧ (handS st s n).room = st.room ∧ (handS st s n).k = st.k ∧ (handS st s n).now = st.now ∧ (handS st s n).ends = st.ends ∧ (handS st s n).ans = st.ans ∧ (handS st s n).am = st.am ∧ (handS st s n).kept = st.kept := by
  obtain ⟨a1, a2, a3, a4, a5, a6, a7, a8, a9⟩ := hand1_keep st s n (st.now % 2)
  obtain ⟨b1, b2, b3, b4, b5, b6, b7, b8, b9⟩ := hand1_keep (hand1 st s n (st.now % 2)) s n (1 - st.now % 2)
  exact ⟨b1.trans a1, b2.trans a2, b3.trans a3, b4.trans a4, b5.trans a5, b6.trans a6, b7.trans a7, b8.trans a8, b9.trans a9⟩
omit B in
theorem goH_keep (ls : List (Nat × Nat)) (s : Nat) (st : NS) (n : Nat) : (goH ls s st n).ord = st.ord ∧ (goH ls s st n).asked = st.asked ∧ (goH ls s st n).room = st.room ∧ (goH ls s st n).k = st.k ∧ (goH ls s st n).now = st.now ∧ (goH ls s st n).ends = st.ends ∧ (goH ls s st n).ans = st.ans ∧ (goH ls s st n).am = st.am ∧ (goH ls s st n).kept = st.kept := by
  unfold goH
  split
  · exact ⟨rfl, rfl, rfl, rfl, rfl, rfl, rfl, rfl, rfl⟩
  · exact handS_keep ..
omit B in
theorem foldl_keep {α β : Type} (g : NS → β) (f : NS → α → NS) (h : ∀ s a, g (f s a) = g s) : ∀ (xs : List α) (st : NS), g (xs.foldl f st) = g st
  | [], _ => rfl
  | x :: xs, st => (foldl_keep g f h xs (f st x)).trans (h st x)
omit B in
theorem goR_keep {β : Type} (g : NS → β) (ls : List (Nat × Nat)) (h : ∀ s st n, g (goH ls s st n) = g st) (st : NS) (i : Nat) : g (goR ls st i) = g st := foldl_keep g _ (h _) _ _
omit B in
theorem goRs_keep {β : Type} (g : NS → β) (ls : List (Nat × Nat)) (h : ∀ s st n, g (goH ls s st n) = g st) (xs : List Nat) (st : NS) : g (xs.foldl (goR ls) st) = g st := foldl_keep g _ (goR_keep g ls h) _ _
omit B in
theorem takeS_nil {st : NS} {l : Nat} (h : st.rows st.k l = []) : takeS st l = st := by unfold takeS; rw [h]
omit B in
theorem takeS_keep (st : NS) (l : Nat) : (takeS st l).asked = st.asked ∧ (takeS st l).room = st.room ∧ (takeS st l).now = st.now ∧ st.ord.length ≤ (takeS st l).ord.length ∧ (takeS st l).kept = st.kept ∧ (takeS st l).am.length = st.am.length := by
  unfold takeS
  split
  · exact ⟨rfl, rfl, rfl, Nat.le_refl _, rfl, rfl⟩
  · next it its e =>
    obtain ⟨a, b, c⟩ := fold_end it.ns { st with rows := fun j m => if j = st.k ∧ m = l then its else st.rows j m }
    obtain ⟨d1, d2, d3, d4, d5, d6⟩ := fold_rows it.ns { st with rows := fun j m => if j = st.k ∧ m = l then its else st.rows j m }
    exact ⟨b, d5, d3, by rw [c, List.length_append]; exact Nat.le_add_right _ _, d6, d4⟩
omit B in
theorem takeS_more {st : NS} {l : Nat} (h : Iv st) (e : st.rows st.k l ≠ []) : st.ord.length < (takeS st l).ord.length := by
  cases er : st.rows st.k l with
  | nil => exact absurd er e
  | cons it its =>
    have hn := (h.its _ _ it (by rw [er]; exact List.mem_cons_self)).2
    unfold takeS
    rw [er]
    show _ < (it.ns.foldl endS { st with rows := fun j m => if j = st.k ∧ m = l then its else st.rows j m }).ord.length
    rw [(fold_end it.ns _).2.2, List.length_append]
    have : 0 < it.ns.length := List.length_pos_iff.mpr hn
    show st.ord.length < st.ord.length + it.ns.length
    omega
omit B in
/-- the sides take: something is answered, or none waits at a side that takes -/
theorem takes_or {ls : List (Nat × Nat)} {st : NS} (h : Iv st) : ∀ (i : Nat), i ≤ 2 ^ st.k → (((List.range i).foldl (goT ls) st = st ∧ ∀ l, l < i → (0, l) ∉ ls → st.rows st.k l = []) ∨ st.ord.length < ((List.range i).foldl (goT ls) st).ord.length)
  | 0, _ => .inl ⟨rfl, fun l h => absurd h (Nat.not_lt_zero _)⟩
  | i + 1, hi => by
    rw [List.range_succ, List.foldl_append]
    show (goT ls ((List.range i).foldl (goT ls) st) i = st ∧ _) ∨ st.ord.length < (goT ls ((List.range i).foldl (goT ls) st) i).ord.length
    rcases takes_or (ls := ls) h i (by omega) with ⟨e, r⟩ | g
    · rw [e]
      unfold goT
      split
      · next c => exact .inl ⟨rfl, fun l hl hn => by
          by_cases q : l = i
          · subst q; exact absurd c hn
          · exact r l (by omega) hn⟩
      · next c =>
        by_cases q : st.rows st.k i = []
        · rw [takeS_nil q]
          exact .inl ⟨rfl, fun l hl hn => by
            by_cases q2 : l = i
            · subst q2; exact q
            · exact r l (by omega) hn⟩
        · exact .inr (takeS_more h q)
    · right
      refine Nat.lt_of_lt_of_le g ?_
      unfold goT
      split
      · exact Nat.le_refl _
      · exact (takeS_keep ..).2.2.2.1
/-- something waits at a level or above -/
def Up (s : Nat) (st : NS) : Prop := ∃ j l, s ≤ j ∧ st.rows j l ≠ []
omit B in
theorem hand1_up {st : NS} {s n f : Nat} (h1 : 1 ≤ s) : hand1 st s n f = st ∨ ((hand1 st s n f).rows s (outS st.k s n ((st.rows (s - 1) (lnS st.k s n f)).headD ⟨0, ⟨0, none, none⟩, []⟩).box) ≠ [] ∧ ∀ a b, st.rows a b ≠ [] → (hand1 st s n f).rows a b ≠ [] ∨ a = s - 1) := by
  rcases hand1_cases st s n f with e | ⟨it, its, e, ⟨_, e2⟩ | ⟨j, ej, _, e2⟩⟩
  · exact .inl e
  · right
    rw [e2, e]
    refine ⟨?_, fun a b hab => ?_⟩
    · show rwU _ _ _ _ s (outS st.k s n it.box) ≠ []
      rw [rwU_ne (fun z => by omega), rwU_at]
      exact fun z => by cases (List.append_eq_nil_iff.mp z).2
    · by_cases c : a = s - 1
      · exact .inr c
      · left
        show rwU _ _ _ _ a b ≠ []
        rw [rwU_ne (fun z => c z.1)]
        by_cases c2 : a = s ∧ b = outS st.k s n it.box
        · rw [c2.1, c2.2, rwU_at]
          exact fun z => by cases (List.append_eq_nil_iff.mp z).2
        · rw [rwU_ne c2]
          exact hab
  · right
    rw [e2, e]
    have jl := (alkS_get ej).1
    refine ⟨?_, fun a b hab => ?_⟩
    · show rwU _ _ _ _ s (outS st.k s n it.box) ≠ []
      rw [rwU_ne (fun z => by omega), rwU_at]
      intro z
      have := congrArg List.length z
      rw [List.length_set] at this
      have : (st.rows s (outS st.k s n it.box)).length = 0 := this
      omega
    · by_cases c : a = s - 1
      · exact .inr c
      · left
        show rwU _ _ _ _ a b ≠ []
        rw [rwU_ne (fun z => c z.1)]
        by_cases c2 : a = s ∧ b = outS st.k s n it.box
        · rw [c2.1, c2.2, rwU_at]
          intro z
          have := congrArg List.length z
          rw [List.length_set] at this
          have : (st.rows s (outS st.k s n it.box)).length = 0 := this
          omega
        · rw [rwU_ne c2]
          exact hab
omit B in
theorem Up.hand1 {st : NS} {s n f j : Nat} (h1 : 1 ≤ s) (u : Up j st) : Up j (hand1 st s n f) := by
  rcases hand1_up (st := st) (n := n) (f := f) h1 with e | ⟨e, r⟩
  · rw [e]; exact u
  · obtain ⟨a, b, hab, ne⟩ := u
    rcases r a b ne with g | g
    · exact ⟨a, b, hab, g⟩
    · exact ⟨s, _, by omega, e⟩
omit B in
theorem Up.handS {st : NS} {s n j : Nat} (h1 : 1 ≤ s) (u : Up j st) : Up j (handS st s n) := Up.hand1 h1 (Up.hand1 h1 u)
omit B in
theorem Up.goH {ls : List (Nat × Nat)} {st : NS} {s n j : Nat} (h1 : 1 ≤ s) (u : Up j st) : Up j (goH ls s st n) := by
  unfold Toy.goH
  split
  · exact u
  · exact u.handS h1
omit B in
theorem Up.goR {ls : List (Nat × Nat)} {st : NS} {i j : Nat} (h1 : i < st.k) (u : Up j st) : Up j (goR ls st i) :=
  foldl_iv (Toy.goH ls (st.k - i)) (Up j) _ st u fun z n _ hz => hz.goH (by omega)
omit B in
theorem Up.goRs {ls : List (Nat × Nat)} {st : NS} {j : Nat} (xs : List Nat) (h : ∀ i ∈ xs, i < st.k) (u : Up j st) : Up j (xs.foldl (Toy.goR ls) st) :=
  (foldl_iv (Toy.goR ls) (fun z => Up j z ∧ z.k = st.k) xs st ⟨u, rfl⟩ fun z i hi hz => ⟨hz.1.goR (by rw [hz.2]; exact h i hi), (goR_k ..).trans hz.2⟩).1
omit B in
theorem hand1_or {st : NS} {s n f : Nat} (h1 : 1 ≤ s) : hand1 st s n f = st ∨ Up s (hand1 st s n f) := by
  rcases hand1_up (st := st) (n := n) (f := f) h1 with e | ⟨e, _⟩
  · exact .inl e
  · exact .inr ⟨s, _, Nat.le_refl _, e⟩
omit B in
/-- where a level is free, what waits ahead of it goes on -/
theorem hand1_go {st : NS} {s n f : Nat} (h1 : 1 ≤ s) (hr : 1 ≤ st.room) (e : st.rows (s - 1) (lnS st.k s n f) ≠ []) (fr : ∀ l, st.rows s l = []) : Up s (hand1 st s n f) := by
  cases er : st.rows (s - 1) (lnS st.k s n f) with
  | nil => exact absurd er e
  | cons it its =>
    have d : doesS st s n it = ({ st with rows := rwU st.rows s (outS st.k s n it.box) (st.rows s (outS st.k s n it.box) ++ [it]) }, true) := by
      unfold doesS
      dsimp only
      have : (alkS it.box (st.rows s (outS st.k s n it.box))).getLast? = none := by rw [fr]; rfl
      rw [this]
      exact if_pos (by rw [fr]; exact hr)
    have hh : hand1 st s n f = { st with rows := rwU (rwU st.rows s (outS st.k s n it.box) (st.rows s (outS st.k s n it.box) ++ [it])) (s - 1) (lnS st.k s n f) its } := by
      unfold Toy.hand1
      dsimp only
      rw [er]
      show (if (doesS st s n it).2 = true then _ else _) = _
      rw [d, if_pos rfl]
      rfl
    refine ⟨s, outS st.k s n it.box, Nat.le_refl _, ?_⟩
    rw [hh]
    show rwU _ _ _ _ s (outS st.k s n it.box) ≠ []
    rw [rwU_ne (fun z => by omega), rwU_at]
    exact fun z => by cases (List.append_eq_nil_iff.mp z).2
omit B in
theorem handS_or {st : NS} {s n : Nat} (h1 : 1 ≤ s) : handS st s n = st ∨ Up s (handS st s n) := by
  unfold handS
  rcases hand1_or (st := st) (n := n) (f := st.now % 2) h1 with e | u
  · rw [e]; exact hand1_or h1
  · exact .inr (u.hand1 h1)
omit B in
theorem handS_go {st : NS} {s n f : Nat} (h1 : 1 ≤ s) (hr : 1 ≤ st.room) (hf : f < 2) (e : st.rows (s - 1) (lnS st.k s n f) ≠ []) (fr : ∀ l, st.rows s l = []) : Up s (handS st s n) := by
  unfold handS
  by_cases c : f = st.now % 2
  · exact (hand1_go h1 hr (c ▸ e) fr).hand1 h1
  · have c2 : f = 1 - st.now % 2 := by omega
    rcases hand1_or (st := st) (n := n) (f := st.now % 2) h1 with g | u
    · rw [g]
      exact hand1_go h1 hr (c2 ▸ e) fr
    · exact u.hand1 h1
omit B in
theorem lnS_all : ∀ (k s : Fin 5) (l : Fin 16), (1 ≤ s.1 ∧ s.1 ≤ k.1 ∧ l.1 < 2 ^ k.1) → ∃ n : Fin 8, ∃ f : Fin 2, n.1 < 2 ^ k.1 / 2 ∧ lnS k.1 s.1 n.1 f.1 = l.1 := by decide +kernel
omit B in
theorem foldl_up {s : Nat} (h1 : 1 ≤ s) : ∀ (xs : List Nat) (st : NS), xs.foldl (goH [] s) st = st ∨ Up s (xs.foldl (goH [] s) st)
  | [], _ => .inl rfl
  | n :: xs, st => by
    rw [List.foldl_cons]
    have e : goH [] s st n = handS st s n := if_neg List.not_mem_nil
    rw [e]
    rcases handS_or (st := st) (n := n) h1 with g | u
    · rw [g]; exact foldl_up h1 xs st
    · exact .inr (foldl_iv (goH [] s) (Up s) xs _ u fun z n _ hz => hz.goH h1)
omit B in
/-- a stage's switches, none lost: what waits ahead of a free level comes to it -/
theorem goR_up {st : NS} {i l : Nat} (hk : st.k ≤ 4) (hi : i < st.k) (hr : 1 ≤ st.room) (hl : l < 2 ^ st.k) (e : st.rows (st.k - i - 1) l ≠ []) (fr : ∀ l, st.rows (st.k - i) l = []) : Up (st.k - i) (goR [] st i) := by
  have p : 2 ^ st.k ≤ 2 ^ 4 := Nat.pow_le_pow_right (by decide) hk
  obtain ⟨n, f, hn, ef⟩ := lnS_all ⟨st.k, by omega⟩ ⟨st.k - i, by omega⟩ ⟨l, by omega⟩ ⟨by show 1 ≤ st.k - i; omega, by show st.k - i ≤ st.k; omega, hl⟩
  have h1 : 1 ≤ st.k - i := by omega
  unfold goR
  have es : List.range (2 ^ st.k / 2) = List.range n.1 ++ n.1 :: (List.range (2 ^ st.k / 2 - (n.1 + 1))).map (n.1 + 1 + ·) := by
    have hn : n.1 < 2 ^ st.k / 2 := hn
    have : 2 ^ st.k / 2 = n.1 + 1 + (2 ^ st.k / 2 - (n.1 + 1)) := by omega
    rw [this, List.range_add, List.range_succ, List.append_assoc]
    rw [show n.1 + 1 + (2 ^ st.k / 2 - (n.1 + 1)) - (n.1 + 1) = 2 ^ st.k / 2 - (n.1 + 1) by omega]
    rfl
  rw [es, List.foldl_append, List.foldl_cons]
  refine foldl_iv (goH [] (st.k - i)) (Up (st.k - i)) _ _ ?_ fun z n _ hz => hz.goH h1
  rcases foldl_up (s := st.k - i) h1 (List.range n.1) st with g | u
  · rw [g]
    have e2 : goH [] (st.k - i) st n.1 = handS st (st.k - i) n.1 := if_neg List.not_mem_nil
    rw [e2]
    have ef : lnS st.k (st.k - i) n.1 f.1 = l := ef
    exact handS_go h1 hr f.2 (by rw [ef]; exact e) fr
  · exact u.goH h1
omit B in
theorem goR_free {st : NS} {i : Nat} (fr : ∀ l, st.rows (st.k - i - 1) l = []) : goR [] st i = st := by
  unfold goR
  have h : ∀ n, goH [] (st.k - i) st n = st := fun n => by
    have e : goH [] (st.k - i) st n = handS st (st.k - i) n := if_neg List.not_mem_nil
    rw [e]
    have h1 : ∀ f, hand1 st (st.k - i) n f = st := fun f => by
      rcases hand1_cases st (st.k - i) n f with g | ⟨it, its, g, _⟩
      · exact g
      · rw [fr] at g; cases g
    unfold handS
    rw [h1]
    exact h1 _
  generalize List.range (2 ^ st.k / 2) = xs
  induction xs with
  | nil => rfl
  | cons x xs ih => rw [List.foldl_cons, h]; exact ih
omit B in
/-- all switches, none lost: the highest that waits goes on by one level -/
theorem goRs_up {st : NS} {j l : Nat} (hk : st.k ≤ 4) (hr : 1 ≤ st.room) (hl : l < 2 ^ st.k) (hj : j < st.k) (e : st.rows j l ≠ []) (fr : ∀ a b, j < a → st.rows a b = []) : Up (j + 1) ((List.range st.k).foldl (goR []) st) := by
  have es : List.range st.k = List.range (st.k - (j + 1)) ++ (st.k - (j + 1)) :: (List.range j).map (st.k - (j + 1) + 1 + ·) := by
    have : st.k = st.k - (j + 1) + 1 + j := by omega
    conv => lhs; rw [this]
    rw [List.range_add, List.range_succ, List.append_assoc]
    rfl
  have h0 : ∀ i, i ≤ st.k - (j + 1) → (List.range i).foldl (goR []) st = st := fun i => by
    induction i with
    | zero => exact fun _ => rfl
    | succ i ih =>
      intro hi
      rw [List.range_succ, List.foldl_append, ih (by omega)]
      exact goR_free fun l => fr _ l (by omega)
  rw [es, List.foldl_append, h0 _ (Nat.le_refl _), List.foldl_cons]
  have e1 : st.k - (st.k - (j + 1)) = j + 1 := by omega
  have u := goR_up (st := st) (i := st.k - (j + 1)) (l := l) hk (by omega) hr hl (by rw [e1]; exact e) (by rw [e1]; exact fun b => fr _ b (Nat.lt_succ_self _))
  rw [e1] at u
  refine u.goRs _ fun i hi => ?_
  obtain ⟨m, hm, rfl⟩ := List.mem_map.mp hi
  have := List.mem_range.mp hm
  rw [goR_k]
  omega
omit B in
theorem goS_keep (st : NS) (ls : List (Nat × Nat)) : (goS st ls).asked = st.asked ∧ (goS st ls).room = st.room ∧ (goS st ls).now = st.now + 1 ∧ (goS st ls).kept = st.kept ∧ (goS st ls).am.length = st.am.length ∧ st.ord.length ≤ (goS st ls).ord.length := by
  have T := fun (β : Type) (g : NS → β) (h : ∀ s l, g (takeS s l) = g s) => (foldl_keep g (goT ls) (fun s l => by unfold goT; split <;> first | rfl | exact h s l) (List.range (2 ^ st.k)) (go0 st))
  have R := fun (β : Type) (g : NS → β) (h : ∀ s st n, g (goH ls s st n) = g st) => goRs_keep g ls h (List.range st.k) ((List.range (2 ^ st.k)).foldl (goT ls) (go0 st))
  refine ⟨(R _ NS.asked fun s st n => (goH_keep ls s st n).2.1).trans (T _ NS.asked fun s l => (takeS_keep s l).1), (R _ NS.room fun s st n => (goH_keep ls s st n).2.2.1).trans (T _ NS.room fun s l => (takeS_keep s l).2.1), (R _ NS.now fun s st n => (goH_keep ls s st n).2.2.2.2.1).trans (T _ NS.now fun s l => (takeS_keep s l).2.2.1), (R _ NS.kept fun s st n => (goH_keep ls s st n).2.2.2.2.2.2.2.2).trans (T _ NS.kept fun s l => (takeS_keep s l).2.2.2.2.1), (R _ (fun z => z.am.length) fun s st n => congrArg List.length (goH_keep ls s st n).2.2.2.2.2.2.2.1).trans (T _ (fun z => z.am.length) fun s l => (takeS_keep s l).2.2.2.2.2), ?_⟩
  have e : (goS st ls).ord = ((List.range (2 ^ st.k)).foldl (goT ls) (go0 st)).ord := R _ NS.ord fun s st n => (goH_keep ls s st n).1
  rw [e]
  exact foldl_iv (goT ls) (fun z => st.ord.length ≤ z.ord.length) _ (go0 st) (Nat.le_refl _) fun z l _ hz => by
    refine Nat.le_trans hz ?_
    unfold goT
    split
    · exact Nat.le_refl _
    · exact (takeS_keep ..).2.2.2.1
omit B in
theorem Iv.ole {st : NS} (h : Iv st) : st.ord.length ≤ st.asked.length := by have := h.tot; omega
omit B in
theorem Iv.waits {st : NS} (h : Iv st) (n : st.ord.length ≠ st.asked.length) : ∃ j l, j ≤ st.k ∧ l < 2 ^ st.k ∧ st.rows j l ≠ [] := by
  have t := h.tot
  have o := h.ole
  obtain ⟨a, b, h1, h2, h3⟩ := wl_pos (g := fun it => it.ns.length) (k := st.k) (r := st.rows) (by omega)
  exact ⟨a, b, h1, h2, h3⟩
omit B in
theorem Iv.free {st : NS} (h : Iv st) (n : st.ord.length = st.asked.length) : ∀ j l, st.rows j l = [] := fun j l => by
  cases e : st.rows j l with
  | nil => rfl
  | cons it its =>
    have hi : it ∈ st.rows j l := by rw [e]; exact List.mem_cons_self
    have a := h.nlen hi
    have b := List.length_pos_iff.mpr (h.its _ _ it hi).2
    omega
/-- what is left at most -/
def Lft (st : NS) (x : Nat) : Prop := st.ord.length = st.asked.length ∨ ∃ j l, st.rows j l ≠ [] ∧ (st.asked.length - st.ord.length - 1) * (st.k + 1) + (st.k - j) + 1 ≤ x
omit B in
theorem Iv.wi {st : NS} (h : Iv st) : Lft st ((st.asked.length - st.ord.length) * (st.k + 1)) := by
  by_cases c : st.ord.length = st.asked.length
  · exact .inl c
  · obtain ⟨j, l, h1, h2, h3⟩ := h.waits c
    have o := h.ole
    refine .inr ⟨j, l, h3, ?_⟩
    obtain ⟨u, eu⟩ : ∃ u, st.asked.length - st.ord.length = u + 1 := ⟨st.asked.length - st.ord.length - 1, by omega⟩
    rw [eu, Nat.add_sub_cancel, Nat.succ_mul]
    omega
omit B in
theorem Lft.mono {st : NS} {x y : Nat} (h : Lft st x) (e : x ≤ y) : Lft st y := h.elim .inl fun ⟨j, l, a, b⟩ => .inr ⟨j, l, a, Nat.le_trans b e⟩
omit B in
theorem wi_less {st st' : NS} {x : Nat} (h' : Iv st') (hk : st'.k = st.k) (ha : st'.asked.length = st.asked.length) (w : ∃ j, (st.asked.length - st.ord.length - 1) * (st.k + 1) + (st.k - j) + 1 ≤ x + 1) (lt : st.ord.length < st'.ord.length) : Lft st' x := by
  refine h'.wi.mono ?_
  obtain ⟨j, w⟩ := w
  have o := h'.ole
  rw [hk, ha]
  have : (st.asked.length - st'.ord.length) * (st.k + 1) ≤ (st.asked.length - st.ord.length - 1) * (st.k + 1) := Nat.mul_le_mul_right _ (by omega)
  omega
omit B in
/-- the highest level at which something waits -/
theorem top_of {st : NS} (h : Iv st) : ∀ (d j l : Nat), st.k - j ≤ d → st.rows j l ≠ [] → ∃ a b, j ≤ a ∧ st.rows a b ≠ [] ∧ ∀ c e, a < c → st.rows c e = []
  | 0, j, l, hd, e => ⟨j, l, Nat.le_refl _, e, fun c f hc => h.out c f (by omega)⟩
  | d + 1, j, l, hd, e => by
    by_cases u : ∃ c f, j < c ∧ st.rows c f ≠ []
    · obtain ⟨c, f, hc, hf⟩ := u
      obtain ⟨a, b, g1, g2, g3⟩ := top_of h d c f (by omega) hf
      exact ⟨a, b, by omega, g2, g3⟩
    · refine ⟨j, l, Nat.le_refl _, e, fun c f hc => ?_⟩
      cases q : st.rows c f with
      | nil => rfl
      | cons x xs => exact absurd ⟨c, f, hc, by rw [q]; exact fun z => by cases z⟩ u
omit B in
theorem Iv.lv {st : NS} (h : Iv st) {j l : Nat} (e : st.rows j l ≠ []) : j ≤ st.k ∧ l < 2 ^ st.k := by
  by_cases c : j ≤ st.k ∧ l < 2 ^ st.k
  · exact c
  · exact absurd (h.out j l c) e
omit B in
/-- a beat in which something may be lost -/
theorem wi_lost {st : NS} {x : Nat} {ls : List (Nat × Nat)} (h : Iv st) (w : Lft st x) : Lft (goS st ls) x := by
  obtain ⟨k1, _, _, _, _, k2⟩ := goS_keep st ls
  have hv := h.go ls
  rcases w with e | ⟨j, l, e, b⟩
  · left
    have := hv.ole
    rw [k1] at this ⊢
    omega
  · rcases takes_or (ls := ls) h.go0 (2 ^ st.k) (Nat.le_refl _) with ⟨g, _⟩ | g
    · have eq : goS st ls = (List.range st.k).foldl (goR ls) (go0 st) := by unfold goS; rw [g]
      have o : (goS st ls).ord = st.ord := by rw [eq]; exact goRs_keep NS.ord ls (fun s st n => (goH_keep ls s st n).1) _ _
      obtain ⟨a, f, ha, hf⟩ : Up j (goS st ls) := by
        rw [eq]
        exact Up.goRs _ (fun i hi => List.mem_range.mp hi) ⟨j, l, Nat.le_refl _, e⟩
      refine .inr ⟨a, f, hf, ?_⟩
      rw [k1, o, goS_k]
      omega
    · have lt : st.ord.length < (goS st ls).ord.length := by
        have e : (goS st ls).ord = ((List.range (2 ^ st.k)).foldl (goT ls) (go0 st)).ord := goRs_keep NS.ord ls (fun s st n => (goH_keep ls s st n).1) _ _
        rw [e]
        exact g
      exact wi_less hv (goS_k ..) (by rw [k1]) ⟨j, by omega⟩ lt
omit B in
/-- a beat in which nothing is lost -/
theorem wi_beat {st : NS} {x : Nat} (h : Iv st) (w : Lft st (x + 1)) : Lft (goS st []) x := by
  obtain ⟨k1, _, _, _, _, k2⟩ := goS_keep st []
  have hv := h.go []
  rcases w with e | ⟨j, l, e, b⟩
  · left
    have := hv.ole
    rw [k1] at this ⊢
    omega
  · obtain ⟨a, f, ja, ne, fr⟩ := top_of h _ j l (Nat.le_refl _) e
    obtain ⟨ak, fk⟩ := h.lv ne
    rcases takes_or (ls := []) h.go0 (2 ^ st.k) (Nat.le_refl _) with ⟨g, gr⟩ | g
    · have eq : goS st [] = (List.range st.k).foldl (goR []) (go0 st) := by unfold goS; rw [g]
      have o : (goS st []).ord = st.ord := by rw [eq]; exact goRs_keep NS.ord [] (fun s st n => (goH_keep [] s st n).1) _ _
      have ak2 : a < st.k := by
        rcases Nat.lt_or_eq_of_le ak with q | q
        · exact q
        · subst q
          exact absurd (gr f fk List.not_mem_nil) ne
      obtain ⟨c, d, hc, hd⟩ : Up (a + 1) (goS st []) := by
        rw [eq]
        exact goRs_up (st := go0 st) (j := a) (l := f) h.wf.k4 h.wf.room.1 fk ak2 ne fr
      have ck := (hv.lv hd).1
      rw [goS_k] at ck
      refine .inr ⟨c, d, hd, ?_⟩
      rw [k1, o, goS_k]
      omega
    · have lt : st.ord.length < (goS st []).ord.length := by
        have e : (goS st []).ord = ((List.range (2 ^ st.k)).foldl (goT []) (go0 st)).ord := goRs_keep NS.ord [] (fun s st n => (goH_keep [] s st n).1) _ _
        rw [e]
        exact g
      exact wi_less hv (goS_k ..) (by rw [k1]) ⟨j, by omega⟩ lt
omit B in
theorem wi_zero {st : NS} (w : Lft st 0) : st.ord.length = st.asked.length := w.elim id fun ⟨_, _, _, b⟩ => by omega
omit B in
/-- all are in the log, each once -/
theorem Iv.perm {st : NS} (h : Iv st) (n : st.ord.length = st.asked.length) : st.ord.Perm (List.range st.asked.length) := by
  refine List.perm_iff_count.mpr fun m => ?_
  have c := h.cnt m
  rw [wl_zero (h.free n), Nat.zero_add] at c
  rw [c, List.count_range]
omit B in
theorem endd {st : NS} (h : Iv st) (n : st.ord.length = st.asked.length) : ∀ m, m < st.asked.length → m ∈ st.ord := fun m hm => (h.perm n).mem_iff.mpr (List.mem_range.mpr hm)
omit B in
theorem goS_free {st : NS} {ls : List (Nat × Nat)} (h : Iv st) (n : st.ord.length = st.asked.length) : goS st ls = go0 st := by
  have fr := h.free n
  have t : ∀ l, goT ls (go0 st) l = go0 st := fun l => by
    unfold goT
    split
    · rfl
    · exact takeS_nil (fr _ _)
  have ts : ∀ xs : List Nat, xs.foldl (goT ls) (go0 st) = go0 st := fun xs => by
    induction xs with
    | nil => rfl
    | cons x xs ih => rw [List.foldl_cons, t]; exact ih
  have hd : ∀ s n, goH ls s (go0 st) n = go0 st := fun s n => by
    unfold goH
    split
    · rfl
    · have h1 : ∀ f, hand1 (go0 st) s n f = go0 st := fun f => by
        rcases hand1_cases (go0 st) s n f with g | ⟨it, its, g, _⟩
        · exact g
        · have g : st.rows (s - 1) (lnS st.k s n f) = it :: its := g
          rw [fr] at g; cases g
      unfold handS
      rw [h1]
      exact h1 _
  have hr : ∀ i, goR ls (go0 st) i = go0 st := fun i => by
    unfold goR
    generalize List.range (2 ^ (go0 st).k / 2) = xs
    generalize (go0 st).k - i = s
    induction xs with
    | nil => rfl
    | cons x xs ih => rw [List.foldl_cons, hd]; exact ih
  unfold goS
  rw [ts]
  generalize List.range st.k = xs
  induction xs with
  | nil => rfl
  | cons x xs ih => rw [List.foldl_cons, hr]; exact ih
/-! SPLIT -/
/-! ### the law's world: a pot, a net, things that stay -/
structure Ww (C : Addr) (H0 H : Hp) (pot : Addr) (ps : List (Addr × HO)) (ad : Nm → Addr) (st : NS) : Prop where
  same : Same H0 H
  p0 : H0 pot = none
  n0 : ∀ n, n.ok st.k → H0 (ad n) = none
  po : PotAt H pot
  net : NetAt C H ad st
  np : ∀ n, n.ok st.k → ad n ≠ pot
  ps_ : ∀ x ∈ ps, H x.1 = some x.2 ∧ x.1 ≠ pot ∧ ∀ n, n.ok st.k → ad n ≠ x.1
omit B in
theorem NetAt.keepB {C p : Addr} {H H' : Hp} {ad : Nm → Addr} {st : NS} (N : NetAt C H ad st) (np : ∀ n, n.ok st.k → ad n ≠ p) (hp : PotAt H p) (b : But p H H') : NetAt C H' ad st := ⟨N.inj, fun n hn => (N.at_ n hn).keep (pot_keep b hp) fun o h => b _ _ (np n hn) h⟩
omit B in
theorem Ww.draw {C pot : Addr} {H0 H H' : Hp} {ps : List (Addr × HO)} {ad : Nm → Addr} {st : NS} (w : Ww C H0 H pot ps ad st) (b : But pot H H') (p : PotAt H' pot) : Ww C H0 H' pot ps ad st :=
  ⟨but_same w.p0 w.same b, w.p0, w.n0, p, w.net.keepB w.np w.po b, w.np, fun x hx => by
    obtain ⟨h1, h2, h3⟩ := w.ps_ x hx
    exact ⟨b _ _ h2 h1, h2, h3⟩⟩
omit B in
theorem Ww.same_ {C pot : Addr} {H0 H H' : Hp} {ps : List (Addr × HO)} {ad : Nm → Addr} {st : NS} (w : Ww C H0 H pot ps ad st) (S : Same H H') : Ww C H0 H' pot ps ad st :=
  ⟨w.same.trans S, w.p0, w.n0, w.po.same S, w.net.same S, w.np, fun x hx => by
    obtain ⟨h1, h2, h3⟩ := w.ps_ x hx
    exact ⟨S _ _ h1, h2, h3⟩⟩
omit B in
theorem Ww.fr {C pot : Addr} {H0 H H' : Hp} {ps : List (Addr × HO)} {ad ad' : Nm → Addr} {st st' : NS} (w : Ww C H0 H pot ps ad st) (f : Fr st.k ad ad' H H') (N : NetAt C H' ad' st') (hk : st'.k = st.k) : Ww C H0 H' pot ps ad' st' ∧ ad' .me = ad .me := by
  have own : ∀ (a : Addr), H a ≠ none → (∀ n, n.ok st.k → ad n ≠ a) → ∀ n, n.ok st'.k → ad' n ≠ a := fun a ha hn n hn2 z => by
    rw [hk] at hn2
    rcases f.own n hn2 with ⟨m, hm, e⟩ | e
    · exact hn m hm (e.trans z)
    · rw [z] at e; exact ha e
  refine ⟨⟨fun a o h => f.keep _ _ (w.same _ _ h) fun n hn z => (by rw [← z, w.n0 n hn] at h; cases h), w.p0, fun n hn => ?_, ?_, N, ?_, fun x hx => ?_⟩, f.me⟩
  · rw [hk] at hn
    rcases f.own n hn with ⟨m, hm, e⟩ | e
    · rw [← e]; exact w.n0 m hm
    · exact none_bk w.same e
  · obtain ⟨a, b, h1, h2⟩ := w.po
    exact ⟨a, b, f.keep _ _ h1 w.np, h2⟩
  · obtain ⟨a, b, h1, h2⟩ := w.po
    exact own _ (by rw [h1]; exact fun z => by cases z) w.np
  · obtain ⟨h1, h2, h3⟩ := w.ps_ x hx
    exact ⟨f.keep _ _ h1 h3, h2, own _ (by rw [h1]; exact fun z => by cases z) h3⟩
omit B in
theorem Ww.tk {C pot : Addr} {H0 H : Hp} {ps : List (Addr × HO)} {ad : Nm → Addr} {st : NS} (w : Ww C H0 H pot ps ad st) {x : Addr × HO} (h : x ∈ ps) : H x.1 = some x.2 := (w.ps_ x h).1
omit B in
theorem Ww.make {C pot x : Addr} {H0 H G H' : Hp} {ps : List (Addr × HO)} {ad : Nm → Addr} {st : NS} (S : Same H0 H) (hp0 : H0 pot = none) (hp : PotAt H pot) (SG : Same H G) (hx : H x = none) (b : But x G H') (me : ad .me = x) (fr : ∀ n, n.ok st.k → n ≠ .me → G (ad n) = none) (N : NetAt C H' ad st) (hps : ∀ y ∈ ps, H y.1 = some y.2 ∧ y.1 ≠ pot) : Ww C H0 H' pot ps ad st := by
  have key : ∀ a o, H a = some o → H' a = some o ∧ ∀ n, n.ok st.k → ad n ≠ a := fun a o h => ⟨b _ _ (ne_of_none h hx) (SG _ _ h), fun n hn z => by
    by_cases c : n = .me
    · subst c
      rw [me] at z
      rw [← z, hx] at h; cases h
    · have := fr n hn c
      rw [z, SG _ _ h] at this; cases this⟩
  obtain ⟨u, v, h1, h2⟩ := hp
  refine ⟨fun a o h => (key a o (S _ _ h)).1, hp0, fun n hn => ?_, ⟨u, v, (key _ _ h1).1, h2⟩, N, (key _ _ h1).2, fun y hy => ?_⟩
  · by_cases c : n = .me
    · subst c
      rw [me]
      exact none_bk S hx
    · exact none_bk (S.trans SG) (fr n hn c)
  · obtain ⟨g1, g2⟩ := hps y hy
    exact ⟨(key _ _ g1).1, g2, (key _ _ g1).2⟩
/-- a net under way in the law -/
structure Rdy (C : Addr) (H0 H : Hp) (pot D : Addr) (ss : List Nat) (k m : Nat) (ad : Nm → Addr) (st : NS) : Prop where
  ww : Ww C H0 H pot [(D, .lst (ss.map fun n => V.int (n : Nat)))] ad st
  iv : Iv st
  hk : st.k = k
  am : st.am.length = m
section
variable {C pot D : Addr} {H0 H H' : Hp} {ss : List Nat} {k m : Nat} {ad : Nm → Addr} {st : NS}
omit B in
theorem Rdy.draw (r : Rdy C H0 H pot D ss k m ad st) (b : But pot H H') (p : PotAt H' pot) : Rdy C H0 H' pot D ss k m ad st := ⟨r.ww.draw b p, r.iv, r.hk, r.am⟩
omit B in
theorem Rdy.same (r : Rdy C H0 H pot D ss k m ad st) (S : Same H H') : Rdy C H0 H' pot D ss k m ad st := ⟨r.ww.same_ S, r.iv, r.hk, r.am⟩
omit B in
theorem Rdy.so (r : Rdy C H0 H pot D ss k m ad st) : H D = some (.lst (ss.map fun n => V.int (n : Nat))) ∧ D ≠ pot := ⟨r.ww.tk (x := (D, _)) (List.mem_singleton.mpr rfl), (r.ww.ps_ _ (List.mem_singleton.mpr rfl)).2.1⟩
omit B in
theorem Rdy.put (r : Rdy C H0 H pot D ss k m ad st) {h b : Nat} {d : Dd} (f : Fr st.k ad ad H H') (N : NetAt C H' ad (putS st h b d)) (hn : st.asked.length < 40) (hh : h < 2 ^ st.k) (hb : b < st.am.length) (hd : d.Ok) : Rdy C H0 H' pot D ss k m ad (putS st h b d) := ⟨(r.ww.fr f N rfl).1, r.iv.put hn hh hb hd, r.hk, r.am⟩
omit B in
theorem Rdy.beat (r : Rdy C H0 H pot D ss k m ad st) {ad' : Nm → Addr} {ls : List (Nat × Nat)} (f : Fr st.k ad ad' H H') (N : NetAt C H' ad' (goS st ls)) : Rdy C H0 H' pot D ss k m ad' (goS st ls) := by
  obtain ⟨w, _⟩ := r.ww.fr f N (goS_k ..)
  exact ⟨w, r.iv.go ls, (goS_k ..).trans r.hk, (goS_keep st ls).2.2.2.2.1.trans r.am⟩
end
omit B in
theorem rg_nat {m : Nat} : rgV 0 (m : Int) = ((List.range m).map fun i : Nat => (i : Int)).map V.int := by
  unfold rgV
  rw [List.map_map, Int.sub_zero, Int.toNat_natCast]
  refine List.map_congr_left fun i _ => ?_
  show V.int (0 + (i : Int)) = V.int (i : Int)
  rw [Int.zero_add]
/-! SPLIT -/
def spLDone (K : PySem.W.Frag) : Sp := fun vs H Q _ => ∃ a d v, vs = [.ref a, .int v] ∧ SqT K H a (Dd.vs d) ∧ d.Ok ∧ Q (.int (d.ap v)) H
theorem k__law_done (D : Df K mg "_law_done" s__law_done ["_law_deed_here", "_law_value"]) : Dn P w K mg base 1 "_law_done" ["_law_deed_here", "_law_value"] (spLDone K) := by
  refine D.ok fun f fd F => okG0 F sc__law_done (fun vs H Q E h => ?_) (fun cdv A outer s H vs Q E hr h => ⟨_, (pss_cons (ps_asg (pv 0) (kk (K := K) (F := fun K => gTup K 3 _) (P := PG _ _) (pg_tup rfl (pgs_cons (pg_name (i := 2) sc__law_done.nd rfl (Or.inl rfl)) (pgs_cons (pg_name (i := 3) sc__law_done.nd rfl (Or.inl rfl)) (pgs_cons (pg_name (i := 4) sc__law_done.nd rfl (Or.inl rfl)) pgs_nil))))))
    (pss_cons (ps_set (i := 5) sc__law_done.nd rfl (Or.inl rfl) (pe_op op_add (pv 1) (pv 2)))
    (C8.pss_cut (ps_if (PW.pt (pw_and (pt_cmpR op_notN (pv 3) pe_non (nomark _)) (pw_and1 (pt_cmpR op_lt (pv 5) (pv 3) (nomark _)))))
      (pss_one (ps_set (i := 5) sc__law_done.nd rfl (Or.inl rfl) (pv 3)))
      pss_nil)
    (pss_cons (ps_if (PW.pt (pw_and (pt_cmpR op_notN (pv 4) pe_non (nomark _)) (pw_and1 (pt_cmpR op_gt (pv 5) (pv 4) (nomark _)))))
      (pss_one (ps_set (i := 5) sc__law_done.nd rfl (Or.inl rfl) (pv 4)))
      pss_nil)
    (pss_one (ps_ret (pv 5))))))), ?_⟩)
  · obtain ⟨a, d, v, rfl, _⟩ := h; rfl
  · obtain ⟨a, d, v, rfl, hx, ok, q⟩ := h
    obtain ⟨add, low, high⟩ := d
    have i0 : atI (Dd.vs ⟨add, low, high⟩) 0 = some (.int add) := rfl
    have i1 : atI (Dd.vs ⟨add, low, high⟩) 1 = some (oV low) := rfl
    have i2 : atI (Dd.vs ⟨add, low, high⟩) 2 = some (oV high) := rfl
    try walk_at "go"
    refine ⟨fun σ H' => σ = [some (.ref a), some (.int v), some (.int add), some (oV low), some (oV high), some (.int (up low (v + add)))] ∧ H = H', ?_, ?_⟩
    · cases low with
      | none =>
        try walk_at "go"
        first | exact ⟨rfl, rfl⟩ | rfl
      | some l =>
        try walk_at "go"
        refine ite2 (fun c => ?_) (fun c => ?_)
        · have c : v + add < l := of_decide_eq_true c
          have e : up (some l) (v + add) = l := if_neg (by omega)
          try walk_at "go"
          rw [e]
          first | exact ⟨rfl, rfl⟩ | rfl
        · have c : ¬ (v + add < l) := fun z => c (decide_eq_true z)
          have e : up (some l) (v + add) = v + add := by
            show (if v + add > l then v + add else l) = v + add
            split <;> omega
          try walk_at "go"
          rw [e]
          first | exact ⟨rfl, rfl⟩ | rfl
    rintro _ _ ⟨rfl, rfl⟩
    have q : Q (.int (dn high (up low (v + add)))) H := q
    generalize up low (v + add) = f at q
    cases high with
    | none =>
      try walk_at "go"
      exact q
    | some hh =>
      try walk_at "go"
      refine ite2 (fun c => ?_) (fun c => ?_)
      · have c := of_decide_eq_true c
        have e : dn (some hh) f = hh := if_neg (by omega)
        try walk_at "go"
        rw [← e]
        exact q
      · have c : ¬ (hh < f) := fun z => c (decide_eq_true z)
        have e : dn (some hh) f = f := by
          show (if f < hh then f else hh) = f
          split <;> omega
        try walk_at "go"
        rw [e] at q
        exact q
/-- a list of asks -/
def LaAt (H : Hp) (a : Addr) (xs : List Ak) : Prop := H a = some (.lst (xs.map fun x => V.ref x.a)) ∧ ∀ x ∈ xs, H x.a = some (.tup x.vs) ∧ H x.da = some (.tup x.d.vs) ∧ x.d.Ok
omit B in
theorem LaAt.same {H H' : Hp} {a : Addr} {xs : List Ak} (h : LaAt H a xs) (S : Same H H') : LaAt H' a xs := ⟨S _ _ h.1, fun x hx => by
  obtain ⟨a, b, c⟩ := h.2 x hx
  exact ⟨S _ _ a, S _ _ b, c⟩⟩
/-! SPLIT -/
def spVals55 (K : PySem.W.Frag) : Sp := fun vs H Q _ => ∃ (D : Addr) (xs : List Ak), vs = [.ref D] ∧ LaAt H D xs ∧ xs.length ≤ 40 ∧ ∀ (L : Addr) (ws : List Int) H', Same H H' → H' L = some (.lst (ws.map V.int)) → ws.length ≤ 200 → Q (.ref L) H'
theorem k__law_values (D : Df K mg "_law_values" s__law_values ["_law_asks"]) : Dn P w K mg base 2 "_law_values" ["_law_asks"] (spVals55 K) := by
  refine D.ok fun f fd F => okG0 F sc__law_values (fun vs H Q E h => ?_) (fun cdv A outer s H vs Q E hr h => ⟨_, (pss_cons (ps_set (i := 1) sc__law_values.nd rfl (Or.inl rfl) (pe_lst (pa_cons pe_int (pa_cons pe_int (pa_cons (pe_un un_neg pe_int) (pa_cons (pe_op op_pow pe_int pe_int) (pa_cons (pe_un un_neg (pe_op op_pow pe_int pe_int)) pa_nil)))))))
    (pss_cons (ps_for PassesOwn.never rfl (kk (K := K) (F := fun K => iList K _) (P := PI _ _ _) (pi_list (pv 0))) (kk (K := K) (F := fun K => gTup K 3 _) (P := PG _ _) (pg_tup rfl (pgs_cons (pg_name (i := 2) sc__law_values.nd rfl (Or.inl rfl)) (pgs_cons (pg_name (i := 3) sc__law_values.nd rfl (Or.inl rfl)) (pgs_cons (pg_name (i := 4) sc__law_values.nd rfl (Or.inr rfl)) pgs_nil)))))
      (pss_cons (ps_expr (kk (K := K) (F := fun K => tBM K "list" _ _ _) (P := PE _ _) (pe_bm PySem.F.plainAttrs_list PySem.F.slot_list_extend PySem.F.type_list_extend mt_extend (pv 1) (pa_cons (pe_lc (own := [("_law_end", 5)]) (g := gName 5) rfl sc__law_values.nd (kk (K := K) (F := fun K => iTup K _) (P := PI _ _ _) (pi_tup (pe_slice (kk (K := K) (F := rSlT) (P := L2.SlR _) sl_tup) (pv 4) (po_some pe_int) po_none))) (blkOk_by (own := [("_law_end", 5)]) (N := ["_law_asks", "_law_found", "_law_hand", "_law_box", "_law_deed_here", "_law_end"]) (sc := defScope s__law_values) (by decide +kernel)) (fun _ _ _ _ _ => (pg_name (i := 5) sc__law_values.nd rfl (Or.inl rfl))) (fun _ _ _ _ _ => (pts_one (pt_cmpR op_notN (pv 5) pe_non (nomark _)))) (fun _ _ _ _ _ => (pv 5))) pa_nil))))
      (pss_one (ps_expr (kk (K := K) (F := fun K => tBM K "list" _ _ _) (P := PE _ _) (pe_bm PySem.F.plainAttrs_list PySem.F.slot_list_extend PySem.F.type_list_extend mt_extend (pv 1) (pa_cons (pe_lc (own := [("_law_end", 5)]) (g := gName 5) rfl sc__law_values.nd (kk (K := K) (F := fun K => iTup K _) (P := PI _ _ _) (pi_tup (pe_slice (kk (K := K) (F := rSlT) (P := L2.SlR _) sl_tup) (pv 4) (po_some pe_int) po_none))) (blkOk_by (own := [("_law_end", 5)]) (N := ["_law_asks", "_law_found", "_law_hand", "_law_box", "_law_deed_here", "_law_end"]) (sc := defScope s__law_values) (by decide +kernel)) (fun _ _ _ _ _ => (pg_name (i := 5) sc__law_values.nd rfl (Or.inl rfl))) (fun _ _ _ _ _ => (pts_one (pt_cmpR op_notN (pv 5) pe_non (nomark _)))) (fun _ _ _ _ _ => (pe_op op_sub (pv 5) (pe_ix (kk (K := K) (F := rIxT) (P := IxR _) ix_tup) (pv 4) pe_int (fun _ _ => rfl))))) pa_nil)))))))
    (pss_one (ps_ret (pv 1))))), ?_⟩)
  · obtain ⟨D, xs, rfl, _⟩ := h; rfl
  · obtain ⟨D, xs, rfl, hD, hl, q⟩ := h
    have cp : CPow 10 31 := ⟨by decide, by decide, by decide⟩
    have hD1 := hD.1
    try walk_at "go"
    intro F hF
    generalize eH1 : upd _ F _ = H1
    have SH1 := newS eH1 hF
    have oF := newO eH1
    have hD2 := hD.same SH1
    have oF : ∃ ws : List Int, H1 F = some (.lst (ws.map V.int)) ∧ ws.length ≤ 5 := ⟨[0, 1, -1, 10 ^ Int.toNat 31, -(10 ^ Int.toNat 31)], oF, by decide⟩
    obtain ⟨w0, oF, lw⟩ := oF
    have hD3 := hD2.1
    try walk_at "go"
    refine for_list (K := K) (a := D) (xs := xs.map fun x => V.ref x.a) (fun i σ H' => Kept (∃ (v2 v3 v4 v5 : Option V) (ws : List Int), σ = [some (.ref D), some (.ref F), v2, v3, v4, v5] ∧ Same H H' ∧ H' F = some (.lst (ws.map V.int)) ∧ ws.length ≤ 5 + 4 * i)) ⟨_, _, _, _, w0, rfl, SH1, oF, lw⟩ (fun i σ H' _ h => by obtain ⟨_, _, _, _, _, _, h, _⟩ := h; exact SqL.of (h _ _ hD1)) ?_ ?_
    · rintro i v σ H2 hi ⟨v2, v3, v4, v5, ws, rfl, S2, f2, l2⟩
      rw [List.getElem?_map] at hi
      obtain ⟨x, hx, rfl⟩ := Option.map_eq_some_iff.mp hi
      have hi2 := (List.getElem?_eq_some_iff.mp hx).1
      obtain ⟨x1, x2, x3⟩ := hD.2 x (List.mem_of_getElem? hx)
      have y1 : H2 x.a = some (.tup [.int x.hand, .int (x.box : Nat), .ref x.da]) := S2 _ _ x1
      have y2 : H2 x.da = some (.tup [.int x.d.add, oV x.d.low, oV x.d.high]) := S2 _ _ x2
      have ns1 : ¬(HT.sIx 3 0 (some 1) = 0 ∧ HT.sIx 3 3 none = 3) := by decide
      try walk_at "go"
      intro t1 ht1
      generalize eH3 : upd _ t1 _ = H3
      have SH3 := newS eH3 ht1
      have ot1 := newO eH3
      have ot1 : H3 t1 = some (.tup [oV x.d.low, oV x.d.high]) := ot1
      have f3 := SH3 _ _ f2
      have z3 := SH3 _ _ y2
      try walk_at "go"
      intro E1 hE1
      refine lc_tup (K := K) (a := t1) (xs := [oV x.d.low, oV x.d.high]) (fun j H4 => Same H3 H4 ∧ ∃ es : List Int, H4 E1 = some (.lst (es.map V.int)) ∧ es.length ≤ j) ⟨same_new hE1 _, [], upd_same, Nat.le_refl _⟩ (fun j H4 _ h => SqT.of (h.1 _ _ ot1)) ?_ ?_
      · rintro j y H4 hj ⟨S4, es, e4, l4⟩
        have hj2 : j < 2 := (List.getElem?_eq_some_iff.mp hj).1
        have el : (es.map V.int).length ≤ 2 := by rw [List.length_map]; omega
        have z4 := S4 _ _ z3
        obtain ⟨o, rfl⟩ : ∃ o : Option Int, y = oV o := by
          match j, hj with
          | 0, hj => exact ⟨x.d.low, (Option.some.inj hj).symm⟩
          | 1, hj => exact ⟨x.d.high, (Option.some.inj hj).symm⟩
          | j + 2, hj => exact absurd hj (by simp)
        cases o with
        | none =>
          try walk_at "go"
          first | exact ⟨S4, es, e4, by omega⟩ | omega
        | some w =>
          try walk_at "go"
          exact ⟨but_same hE1 S4 But.upd, es ++ [w], by rw [upd_same, List.map_append] <;> rfl, by rw [List.length_append, List.length_singleton]; omega⟩
      rintro H4 ⟨S4, es1, e4, l4⟩
      have l4 : es1.length ≤ 2 := l4
      have g4 := S4 _ _ f3
      try walk_at "go"
      generalize e5 : upd H4 F _ = H5
      have b5 : But F H4 H5 := e5 ▸ But.upd
      have f5 : H5 F = some (.lst ((ws ++ es1).map V.int)) := by rw [← e5, upd_same, List.map_append]
      have S05 : Same H H5 := but_same hF (S2.trans (SH3.trans S4)) b5
      have y3 : H5 x.da = some (.tup [.int x.d.add, oV x.d.low, oV x.d.high]) := S05 _ _ x2
      refine ⟨SqT.of y3, ns1, ?_⟩
      intro t2 ht2
      generalize eH6 : upd _ t2 _ = H6
      have SH6 := newS eH6 ht2
      have ot2 := newO eH6
      have ot2 : H6 t2 = some (.tup [oV x.d.low, oV x.d.high]) := ot2
      have f6 := SH6 _ _ f5
      have z6 := SH6 _ _ y3
      try walk_at "go"
      intro E2 hE2
      refine lc_tup (K := K) (a := t2) (xs := [oV x.d.low, oV x.d.high]) (fun j H4 => Same H6 H4 ∧ ∃ es : List Int, H4 E2 = some (.lst (es.map V.int)) ∧ es.length ≤ j) ⟨same_new hE2 _, [], upd_same, Nat.le_refl _⟩ (fun j H4 _ h => SqT.of (h.1 _ _ ot2)) ?_ ?_
      · rintro j y H4 hj ⟨S4, es, e4, l4⟩
        have hj2 : j < 2 := (List.getElem?_eq_some_iff.mp hj).1
        have el : (es.map V.int).length ≤ 2 := by rw [List.length_map]; omega
        have z4 := S4 _ _ z6
        obtain ⟨o, rfl⟩ : ∃ o : Option Int, y = oV o := by
          match j, hj with
          | 0, hj => exact ⟨x.d.low, (Option.some.inj hj).symm⟩
          | 1, hj => exact ⟨x.d.high, (Option.some.inj hj).symm⟩
          | j + 2, hj => exact absurd hj (by simp)
        cases o with
        | none =>
          try walk_at "go"
          first | exact ⟨S4, es, e4, by omega⟩ | omega
        | some w =>
          try walk_at "go"
          exact ⟨but_same hE2 S4 But.upd, es ++ [w - x.d.add], by rw [upd_same, List.map_append] <;> rfl, by rw [List.length_append, List.length_singleton]; omega⟩
      rintro H7 ⟨S7, es2, e7, l7⟩
      have l7 : es2.length ≤ 2 := l7
      have g7 := S7 _ _ f6
      try walk_at "go"
      generalize e8 : upd H7 F _ = H8
      have b8 : But F H7 H8 := e8 ▸ But.upd
      have f8 : H8 F = some (.lst ((ws ++ es1 ++ es2).map V.int)) := by rw [← e8, upd_same]; simp only [List.map_append]
      have S08 : Same H H8 := but_same hF (S05.trans (SH6.trans S7)) b8
      exact ⟨⟨_, _, _, _, ws ++ es1 ++ es2, rfl, S08, f8, by rw [List.length_append, List.length_append]; omega⟩⟩
    · rintro σ H2 ⟨v2, v3, v4, v5, ws, rfl, S2, f2, l2⟩
      rw [List.length_map] at l2
      try walk_at "go"
      exact q F ws H2 S2 f2 (by omega)
/-! SPLIT -/
def spDeedIs (K : PySem.W.Frag) : Sp := fun vs H Q _ => ∃ (da D : Addr) (d : Dd) (xs : List Ak), vs = [.ref da, .ref D] ∧ H da = some (.tup d.vs) ∧ d.Ok ∧ LaAt H D xs ∧ xs.length ≤ 40 ∧ (∀ v, d.ap v = xs.foldl (fun v x => x.d.ap v) v) ∧ ∀ H', Same H H' → Q (.bl true) H'
theorem k__law_deed_is (D : Df K mg "_law_deed_is" s__law_deed_is ["_law_deed_here", "_law_asks"]) (D__law_values : Dn P w K mg base 2 "_law_values" ["_law_asks"] (spVals55 K)) (D__law_done : Dn P w K mg base 1 "_law_done" ["_law_deed_here", "_law_value"] (spLDone K)) : Dn P w K mg base 3 "_law_deed_is" ["_law_deed_here", "_law_asks"] (spDeedIs K) := by
  refine D.ok fun f fd F => okG0 F sc__law_deed_is (fun vs H Q E h => ?_) (fun cdv A outer s H vs Q E hr h => ⟨_, (pss_cons (ps_for PassesOwn.never rfl (kk (K := K) (F := fun K => iList K _) (P := PI _ _ _) (pi_list (pe_cD D__law_values (hr.less (by decide)) rfl (pa_cons (pv 1) pa_nil)))) (pg_name (i := 2) sc__law_deed_is.nd rfl (Or.inl rfl))
      (pss_cons (ps_set (i := 3) sc__law_deed_is.nd rfl (Or.inl rfl) (pv 2))
      (pss_cons (ps_for PassesOwn.never rfl (kk (K := K) (F := fun K => iList K _) (P := PI _ _ _) (pi_list (pv 1))) (kk (K := K) (F := fun K => gTup K 3 _) (P := PG _ _) (pg_tup rfl (pgs_cons (pg_name (i := 4) sc__law_deed_is.nd rfl (Or.inl rfl)) (pgs_cons (pg_name (i := 5) sc__law_deed_is.nd rfl (Or.inl rfl)) (pgs_cons (pg_name (i := 6) sc__law_deed_is.nd rfl (Or.inl rfl)) pgs_nil)))))
        (pss_one (ps_set (i := 3) sc__law_deed_is.nd rfl (Or.inl rfl) (pe_cD D__law_done (hr.less (by decide)) rfl (pa_cons (pv 6) (pa_cons (pv 3) pa_nil))))))
      (pss_one (ps_if (pt_cmpR op_ne (pe_cD D__law_done (hr.less (by decide)) rfl (pa_cons (pv 0) (pa_cons (pv 2) pa_nil))) (pv 3) (nomark _))
       (pss_one (ps_ret pe_bl))
       pss_nil)))))
    (pss_one (ps_ret pe_bl))), ?_⟩)
  · obtain ⟨da, D, d, xs, rfl, _⟩ := h; rfl
  · obtain ⟨da, D, d, xs, rfl, hd, dok, hD, hl, ha, q⟩ := h
    try walk_at "go"
    intro L ws H1 S1 oL lw
    have hd1 := S1 _ _ hd
    have hD1 := hD.same S1
    have hD2 := hD1.1
    try walk_at "go"
    refine for_list (K := K) (a := L) (xs := ws.map V.int) (fun i σ H' => Kept (∃ (v2 v3 v4 v5 v6 : Option V), σ = [some (.ref da), some (.ref D), v2, v3, v4, v5, v6] ∧ Same H1 H')) ⟨_, _, _, _, _, rfl, Same.refl _⟩ (fun i σ H' _ h => by obtain ⟨_, _, _, _, _, _, h⟩ := h; exact SqL.of (h _ _ oL)) ?_ ?_
    · rintro i v σ H2 hi ⟨v2, v3, v4, v5, v6, rfl, S2⟩
      rw [List.getElem?_map] at hi
      obtain ⟨w, hw, rfl⟩ := Option.map_eq_some_iff.mp hi
      have hD3 := S2 _ _ hD2
      try walk_at "go"
      refine for_list (K := K) (a := D) (xs := xs.map fun x => V.ref x.a) (fun j σ H' => Kept (∃ (v4 v5 v6 : Option V), σ = [some (.ref da), some (.ref D), some (.int w), some (.int ((xs.take j).foldl (fun v x => x.d.ap v) w)), v4, v5, v6] ∧ H2 = H')) ⟨_, _, _, rfl, rfl⟩ (fun j σ H' _ h => by obtain ⟨_, _, _, _, h⟩ := h; rw [← h]; exact SqL.of hD3) ?_ ?_
      · rintro j v σ H3 hj ⟨v4, v5, v6, rfl, rfl⟩
        rw [List.getElem?_map] at hj
        obtain ⟨x, hx, rfl⟩ := Option.map_eq_some_iff.mp hj
        obtain ⟨x1, x2, x3⟩ := hD1.2 x (List.mem_of_getElem? hx)
        have y1 : H2 x.a = some (.tup [.int x.hand, .int (x.box : Nat), .ref x.da]) := S2 _ _ x1
        have y2 : SqT K H2 x.da x.d.vs := SqT.of (S2 _ _ x2)
        have ef : (xs.take (j + 1)).foldl (fun v x => x.d.ap v) w = x.d.ap ((xs.take j).foldl (fun v x => x.d.ap v) w) := by rw [take_snoc hx, List.foldl_append] <;> rfl
        try walk_at "go"
        rw [← ef]
        exact ⟨⟨_, _, _, rfl, rfl⟩⟩
      · rintro σ H3 ⟨v4, v5, v6, rfl, rfl⟩
        rw [List.length_map, List.take_length]
        have y2 : SqT K H2 da d.vs := SqT.of (S2 _ _ hd1)
        have e1 := ha w
        try walk_at "go"
        rw [e1]
        refine ifF (by rw [decide_eq_true rfl]; rfl) ?_
        exact ⟨⟨_, _, _, _, _, rfl, S2⟩⟩
    · rintro σ H2 ⟨v2, v3, v4, v5, v6, rfl, S2⟩
      try walk_at "go"
      exact q H2 (S1.trans S2)
/-! SPLIT -/
def spSpotsX : Sp := fun vs H Q _ => ∃ (f k m : Nat), vs = [.int (f : Nat), .int (k : Nat), .int (m : Nat)] ∧ k ≤ 4 ∧ m ≤ 16 ∧ f ≤ k + 1 ∧ ∀ (D : Addr) (ts : List Addr) H', Same H H' → H D = none → H' D = some (.lst (ts.map V.ref)) → PtsAt H' ts (spL f k m) → ts.length ≤ 80 → Q (.ref D) H'
theorem k__law_spots (D : Df K mg "_law_spots" s__law_spots ["_law_first", "_law_k", "_law_many"]) : Dn P w K mg base 1 "_law_spots" ["_law_first", "_law_k", "_law_many"] spSpotsX := by
  refine D.ok fun f fd F => okG0 F sc__law_spots (fun vs H Q E h => ?_) (fun cdv A outer s H vs Q E hr h => ⟨_, (pss_cons (ps_set (i := 3) sc__law_spots.nd rfl (Or.inl rfl) (pe_lst pa_nil))
    (pss_cons (ps_for PassesOwn.never rfl (pi_range2 (by rfl) B.range_ (pa_cons (pv 0) (pa_cons (pe_op op_add (pv 1) pe_int) pa_nil))) (pg_name (i := 4) sc__law_spots.nd rfl (Or.inr rfl))
      (pss_one (ps_expr (kk (K := K) (F := fun K => tBM K "list" _ _ _) (P := PE _ _) (pe_bm PySem.F.plainAttrs_list PySem.F.slot_list_extend PySem.F.type_list_extend mt_extend (pv 3) (pa_cons (pe_lc (own := [("_law_line", 5)]) (g := gName 5) (tt := tYes) rfl sc__law_spots.nd (pi_range1 (by rfl) B.range_ (pa_cons (pv 2) pa_nil)) (blkOk_by (own := [("_law_line", 5)]) (N := ["_law_first", "_law_k", "_law_many", "_law_found", "_law_level", "_law_line"]) (sc := defScope s__law_spots) (by decide +kernel)) (fun _ _ _ _ _ => (pg_name (i := 5) sc__law_spots.nd rfl (Or.inl rfl))) (fun _ _ _ _ _ => pts_nil) (fun _ _ _ _ _ => (pe_tup (pa_cons (pv 4) (pa_cons (pv 5) pa_nil))))) pa_nil))))))
    (pss_one (ps_ret (pv 3))))), ?_⟩)
  · obtain ⟨f, k, m, rfl, _⟩ := h; rfl
  · obtain ⟨f, k, m, rfl, hk, hm, hf, q⟩ := h
    try walk_at "go"
    intro F hF
    generalize eH1 : upd _ F _ = H1
    have SH1 := newS eH1 hF
    have oF := newO eH1
    try walk_at "go"
    rw [show ((k : Int) + 1 - (f : Int)).toNat = k + 1 - f by omega]
    refine for_range (lo := (f : Int)) (n := k + 1 - f) (fun i σ H' => Kept (∃ (v4 v5 : Option V) (ts : List Addr), σ = [some (.int (f : Nat)), some (.int (k : Nat)), some (.int (m : Nat)), some (.ref F), v4, v5] ∧ Same H H' ∧ H' F = some (.lst (ts.map V.ref)) ∧ PtsAt H' ts ((List.range i).flatMap fun i => (List.range m).map fun l => (f + i, l)) ∧ ts.length = m * i)) ⟨_, _, [], rfl, SH1, oF, ⟨rfl, fun j t p h => by simp at h⟩, rfl⟩ ?_ ?_
    · rintro i σ H2 hi ⟨v4, v5, ts, rfl, S2, f2, t2, n2⟩
      rw [show (f : Int) + (i : Nat) = ((f + i : Nat) : Int) by omega]
      have tl : ts.length ≤ 64 := by
        rw [n2]
        exact Nat.le_trans (Nat.mul_le_mul hm (show i ≤ 4 by omega)) (by decide)
      try walk_at "go"
      rw [Int.toNat_natCast]
      intro D hD
      have nFD : F ≠ D := fun z => by rw [← z, f2] at hD; cases hD
      refine lc_range (lo := 0) (n := m) (fun j H' => Same H2 H' ∧ ∃ us : List Addr, H' D = some (.lst (us.map V.ref)) ∧ PtsAt H' us ((List.range j).map fun l => (f + i, l))) ⟨same_new hD _, [], upd_same, rfl, fun j t p h => by simp at h⟩ ?_ ?_
      · rintro j H3 hj ⟨S3, us, d3, u3⟩
        rw [show (0 : Int) + (j : Nat) = (j : Nat) by omega]
        have ul : (us.map V.ref).length ≤ 16 := by rw [List.length_map, u3.1, List.length_map, List.length_range]; omega
        try walk_at "go"
        intro t ht
        generalize eH4 : upd _ t _ = H4
        have SH4 := newS eH4 ht
        have ot := newO eH4
        have d4 := SH4 _ _ d3
        try walk_at "go"
        have nt : ∀ {a : Addr} {xs : List V}, H4 a = some (.tup xs) → upd H4 D (.lst (us.map V.ref ++ [V.ref t])) a = some (.tup xs) := fun {a xs} h => by rw [upd_ne (ne_of h d4 (fun z => by cases z))]; exact h
        refine ⟨but_same hD (S3.trans SH4) But.upd, us ++ [t], by rw [upd_same, List.map_append] <;> rfl, ?_⟩
        rw [List.range_succ, List.map_append]
        exact ((u3.same SH4).app (PtsAt.one (p := (f + i, j)) ot)).keep fun a xs h => nt h
      · rintro H3 ⟨S3, us, d3, u3⟩
        have f3 := S3 _ _ f2
        have ul : (us.map V.ref).length ≤ 16 := by rw [List.length_map, u3.1, List.length_map, List.length_range]; omega
        try walk_at "go"
        refine ⟨Nat.le_trans (show _ ≤ 80 by rw [List.length_map]; omega) (by decide), ?_⟩
        generalize e4 : upd H3 F _ = H4
        have b4 : But F H3 H4 := e4 ▸ But.upd
        have nt : ∀ {a : Addr} {xs : List V}, H3 a = some (.tup xs) → H4 a = some (.tup xs) := fun {a xs} h => b4 _ _ (ne_of h f3 (fun z => by cases z)) h
        refine ⟨⟨_, _, ts ++ us, rfl, but_same hF (S2.trans S3) b4, by rw [← e4, upd_same, List.map_append], ?_, ?_⟩⟩
        · rw [List.range_succ, List.flatMap_append, List.flatMap_cons, List.flatMap_nil, List.append_nil]
          exact ((t2.same S3).app u3).keep fun a xs h => nt h
        · rw [List.length_append, n2, u3.1, List.length_map, List.length_range, Nat.mul_succ]
    · rintro σ H2 ⟨v4, v5, ts, rfl, S2, f2, t2, n2⟩
      try walk_at "go"
      refine q F ts H2 S2 hF f2 t2 ?_
      rw [n2]
      exact Nat.le_trans (Nat.mul_le_mul hm (show k + 1 - f ≤ 5 by omega)) (by decide)
/-! SPLIT -/
omit B in
theorem rep_flatI (b : Int) : ∀ n : Nat, (List.replicate n [V.int b]).flatten = (List.replicate n b).map V.int
  | 0 => rfl
  | n + 1 => by
    rw [List.replicate_succ, List.replicate_succ, List.flatten_cons, rep_flatI b n]
    rfl
def kA (xs : List Ak) (ns : List Nat) : List Ak := ns.map fun n => xs.getD n ⟨0, 0, 0, 0, ⟨0, none, none⟩⟩
def spEntry (K : PySem.W.Frag) : Sp := fun vs H Q _ => ∃ (k lv l : Nat) (t D : Addr) (it : Itm) (xs : List Ak), vs = [.int (k : Nat), .int (lv : Nat), .int (l : Nat), .ref t, .ref D] ∧ ItAt H t it ∧ it.d.Ok ∧ LaAt H D xs ∧ k ≤ 4 ∧ lv ≤ k ∧ l < 2 ^ k ∧ it.ns ≠ [] ∧ it.ns.length ≤ 40 ∧ it.box < 16 ∧ (∀ n ∈ it.ns, n < xs.length) ∧ (∀ x ∈ kA xs it.ns, x.box = it.box ∧ x.hand % ((2 ^ (k - lv) : Nat) : Int) = ((l % 2 ^ (k - lv) : Nat) : Int)) ∧ l / 2 ^ (k - lv) = it.box % 2 ^ k / 2 ^ (k - lv) ∧ (∀ v, it.d.ap v = (kA xs it.ns).foldl (fun v x => x.d.ap v) v) ∧ ∀ H', Same H H' → Q (.bl true) H'
theorem k__law_entry (D : Df K mg "_law_entry" s__law_entry ["_law_k", "_law_level", "_law_line", "_law_one", "_law_asks"]) (D__law_deed_is : Dn P w K mg base 3 "_law_deed_is" ["_law_deed_here", "_law_asks"] (spDeedIs K)) : Dn P w K mg base 4 "_law_entry" ["_law_k", "_law_level", "_law_line", "_law_one", "_law_asks"] (spEntry K) := by
  refine D.ok fun f fd F => okG0 F sc__law_entry (fun vs H Q E h => ?_) (fun cdv A outer s H vs Q E hr h => ⟨_, (pss_cons (ps_asg (pv 3) (kk (K := K) (F := fun K => gTup K 3 _) (P := PG _ _) (pg_tup rfl (pgs_cons (pg_name (i := 5) sc__law_entry.nd rfl (Or.inl rfl)) (pgs_cons (pg_name (i := 6) sc__law_entry.nd rfl (Or.inl rfl)) (pgs_cons (pg_name (i := 7) sc__law_entry.nd rfl (Or.inl rfl)) pgs_nil))))))
    (pss_cons (ps_setLc (i := 8) (own := [("_law_number_here", 10)]) (g := gName 10) (tt := tYes) rfl sc__law_entry.nd rfl rfl (sw_true rfl rfl rfl (by decide +kernel)) (kk (K := K) (F := fun K => iTup K _) (P := PI _ _ _) (pi_tup (pv 7))) (blkOk_by (own := [("_law_number_here", 10)]) (N := ["_law_k", "_law_level", "_law_line", "_law_one", "_law_asks", "_law_box", "_law_deed_here", "_law_numbers", "_law_some", "_law_rest", "_law_number_here", "_law_ask_here"]) (sc := defScope s__law_entry) (by decide +kernel)) (fun _ _ _ _ _ => (pg_name (i := 10) sc__law_entry.nd rfl (Or.inl rfl))) (fun _ _ _ _ _ => pts_nil) (fun _ _ _ _ _ => (pe_ix (kk (K := K) (F := rIxL) (P := IxR _) ix_list) (pv 4) (pv 10) (fun _ _ => rfl))))
    (pss_cons (ps_if (PW.pt (pw_or (pt_cmpR (kk (K := K) (F := rEqD) (P := OpR _ _) (op_eqD hr.units)) (pv 7) (pe_tup pa_nil) (nomark _)) (pw_or (pt_cmpR (kk (K := K) (F := rNeD) (P := OpR _ _) (op_neD hr.units)) (pe_lc (own := [("_law_ask_here", 11)]) (g := gName 11) (tt := tYes) rfl sc__law_entry.nd (kk (K := K) (F := fun K => iList K _) (P := PI _ _ _) (pi_list (pv 8))) (blkOk_by (own := [("_law_ask_here", 11)]) (N := ["_law_k", "_law_level", "_law_line", "_law_one", "_law_asks", "_law_box", "_law_deed_here", "_law_numbers", "_law_some", "_law_rest", "_law_number_here", "_law_ask_here"]) (sc := defScope s__law_entry) (by decide +kernel)) (fun _ _ _ _ _ => (pg_name (i := 11) sc__law_entry.nd rfl (Or.inl rfl))) (fun _ _ _ _ _ => pts_nil) (fun _ _ _ _ _ => (pe_ix (kk (K := K) (F := rIxT) (P := IxR _) ix_tup) (pv 11) pe_int (fun _ _ => rfl)))) (pe_op op_rep (pe_lst (pa_cons (pv 5) pa_nil)) (pe_callB (lenK (K := K)) (by rfl) B.len_ (by decide +kernel) (pa_cons (pv 8) pa_nil))) (nomark _)) (pw_or1 (pt_not (pt_val (pe_cD D__law_deed_is (hr.less (by decide)) rfl (pa_cons (pv 6) (pa_cons (pv 8) pa_nil)))))))))
      (pss_one (ps_ret pe_bl))
      pss_nil)
    (pss_cons (ps_set (i := 9) sc__law_entry.nd rfl (Or.inr rfl) (pe_op op_shlW pe_int (pe_op op_sub (pv 0) (pv 1))))
    (pss_cons (ps_if (pt_cmpR (kk (K := K) (F := rNeD) (P := OpR _ _) (op_neD hr.units)) (pe_lc (own := [("_law_ask_here", 11)]) (g := gName 11) (tt := tYes) rfl sc__law_entry.nd (kk (K := K) (F := fun K => iList K _) (P := PI _ _ _) (pi_list (pv 8))) (blkOk_by (own := [("_law_ask_here", 11)]) (N := ["_law_k", "_law_level", "_law_line", "_law_one", "_law_asks", "_law_box", "_law_deed_here", "_law_numbers", "_law_some", "_law_rest", "_law_number_here", "_law_ask_here"]) (sc := defScope s__law_entry) (by decide +kernel)) (fun _ _ _ _ _ => (pg_name (i := 11) sc__law_entry.nd rfl (Or.inl rfl))) (fun _ _ _ _ _ => pts_nil) (fun _ _ _ _ _ => (pe_op op_mod (pe_ix (kk (K := K) (F := rIxT) (P := IxR _) ix_tup) (pv 11) pe_int (fun _ _ => rfl)) (pv 9)))) (pe_op op_rep (pe_lst (pa_cons (pe_op op_mod (pv 2) (pv 9)) pa_nil)) (pe_callB (lenK (K := K)) (by rfl) B.len_ (by decide +kernel) (pa_cons (pv 8) pa_nil))) (nomark _))
      (pss_one (ps_ret pe_bl))
      pss_nil)
    (pss_one (ps_ret (pe_cmpR op_eq (pe_op op_fdivW (pv 2) (pv 9)) (pe_op op_fdivW (pe_op op_mod (pv 5) (pe_op op_shlW pe_int (pv 0))) (pv 9)) (nomark _))))))))), ?_⟩)
  · obtain ⟨k, lv, l, t, D, it, xs, rfl, _⟩ := h; rfl
  · obtain ⟨k, lv, l, t, D, it, xs, rfl, ⟨da, na, i1, i2, i3⟩, dok, hD, hk, hlv, hl, hne, h40, hb, hn, hx, hg, hd, q⟩ := h
    have hD1 := hD.1
    have nl : (it.ns.map fun n => V.int (n : Nat)).length = it.ns.length := List.length_map _
    try walk_at "go"
    intro L hL
    refine lc_tup (K := K) (a := na) (xs := it.ns.map fun n => V.int (n : Nat)) (fun i H' => Same H H' ∧ H' L = some (.lst ((kA xs (it.ns.take i)).map fun x => V.ref x.a))) ⟨same_new hL _, upd_same⟩ (fun i H' _ h => SqT.of (h.1 _ _ i3)) ?_ ?_
    · rintro i y H1 hi ⟨S1, l1⟩
      rw [List.getElem?_map] at hi
      obtain ⟨n, en, rfl⟩ := Option.map_eq_some_iff.mp hi
      have hn2 := hn n (List.mem_of_getElem? en)
      have hi2 := (List.getElem?_eq_some_iff.mp en).1
      have D1 := S1 _ _ hD1
      have ga : atI (xs.map fun x => V.ref x.a) (n : Int) = some (.ref (xs.getD n ⟨0, 0, 0, 0, ⟨0, none, none⟩⟩).a) := at_of (j := n) rfl (by rw [List.getElem?_map, List.getD_eq_getElem?_getD, List.getElem?_eq_getElem hn2] <;> rfl)
      have ll : ((kA xs (it.ns.take i)).map fun x => V.ref x.a).length ≤ 40 := by
        unfold kA
        rw [List.length_map, List.length_map, List.length_take]
        omega
      try walk_at "go"
      exact ⟨but_same hL S1 But.upd, by unfold kA; rw [upd_same, take_snoc en, List.map_append, List.map_append] <;> rfl⟩
    rintro H1 ⟨S1, l1⟩
    rw [nl, List.take_length] at l1
    have LA : LaAt H1 L (kA xs it.ns) := ⟨l1, fun x hx2 => by
      obtain ⟨n, hn3, rfl⟩ := List.mem_map.mp hx2
      have hn2 := hn n hn3
      have hm : xs.getD n ⟨0, 0, 0, 0, ⟨0, none, none⟩⟩ ∈ xs := by rw [List.getD_eq_getElem?_getD, List.getElem?_eq_getElem hn2]; exact List.getElem_mem hn2
      obtain ⟨a, b, c⟩ := hD.2 _ hm
      exact ⟨S1 _ _ a, S1 _ _ b, c⟩⟩
    have kl : (kA xs it.ns).length = it.ns.length := by unfold kA; rw [List.length_map]
    have i31 := S1 _ _ i3
    try walk_at "go"
    intro e he
    generalize eH2 : upd _ e _ = H2
    have SH2 := newS eH2 he
    have oe := newO eH2
    have S2 := S1.trans SH2
    have LA2 := LA.same SH2
    have i32 : H2 na = some (.tup ((it.ns.map fun n => ((n : Nat) : Int)).map V.int)) := by rw [SH2 _ _ i31, List.map_map] <;> rfl
    refine ⟨_, _, tupI_dp (SqT.of i32), tupI_dp (ns := []) (SqT.of oe), tupI_sh _, tupI_sh _, ?_⟩
    rw [Ly.ne Ly.tupI Ly.tupI (fun z => by
      have z := congrArg List.length (PyData.tuple.inj z)
      rw [List.length_map, List.length_map] at z
      exact hne (List.length_eq_zero_iff.mp z))]
    refine ⟨_, rfl, ?_⟩
    refine ifF rfl ?_
    have la := LA2.1
    try walk_at "go"
    intro M hM
    refine lc_list (K := K) (a := L) (xs := (kA xs it.ns).map fun x => V.ref x.a) (fun i H' => Same H2 H' ∧ H' M = some (.lst ((List.replicate i ((it.box : Nat) : Int)).map V.int))) ⟨same_new hM _, upd_same⟩ (fun i H' _ h => SqL.of (h.1 _ _ la)) ?_ ?_
    · rintro i y H3 hi ⟨S3, m3⟩
      rw [List.getElem?_map] at hi
      obtain ⟨x, ex, rfl⟩ := Option.map_eq_some_iff.mp hi
      have xm := List.mem_of_getElem? ex
      have hi2 := (List.getElem?_eq_some_iff.mp ex).1
      have y1 : H3 x.a = some (.tup [.int x.hand, .int (x.box : Nat), .ref x.da]) := S3 _ _ (LA2.2 x xm).1
      have xb := (hx x xm).1
      have ll : ((List.replicate i ((it.box : Nat) : Int)).map V.int).length ≤ 40 := by rw [List.length_map, List.length_replicate]; omega
      try walk_at "go"
      exact ⟨but_same hM S3 But.upd, by rw [upd_same, xb, List.replicate_succ', List.map_append] <;> rfl⟩
    rintro H3 ⟨S3, m3⟩
    rw [List.length_map, kl] at m3
    have la3 := S3 _ _ la
    have lal : ((kA xs it.ns).map fun x => V.ref x.a).length = it.ns.length := by rw [List.length_map, kl]
    try walk_at "go"
    intro G4 hG4
    generalize eH4 : upd _ G4 _ = H4
    have SH4 := newS eH4 hG4
    have oG4 := newO eH4
    have la4 := SH4 _ _ la3
    try walk_at "go"
    rw [lal]
    intro G5 hG5
    generalize eH5 : upd _ G5 _ = H5
    have SH5 := newS eH5 hG5
    have oG5 := newO eH5
    have o5 : H5 G5 = some (.lst ((List.replicate it.ns.length ((it.box : Nat) : Int)).map V.int)) := by rw [oG5, Int.toNat_natCast, rep_flatI]
    have m5 := SH5 _ _ (SH4 _ _ m3)
    have S5 := S2.trans (S3.trans (SH4.trans SH5))
    have LA5 := LA2.same (S3.trans (SH4.trans SH5))
    refine ⟨_, _, .lst (SqL.of m5) (ints_dp _), .lst (SqL.of o5) (ints_dp _), Ly.lstI.sh, Ly.lstI.sh, ?_⟩
    rw [Ly.lstI.refl]
    refine ⟨_, rfl, ?_⟩
    refine ifF rfl ?_
    have d5 := S5 _ _ i2
    have kl40 : (kA xs it.ns).length ≤ 40 := by omega
    try walk_at "go"
    intro H6 S6
    have sh : CShl 1 ((k : Int) - (lv : Int)) := by rw [show (k : Int) - (lv : Int) = ((k - lv : Nat) : Int) by omega]; exact shl_ok (by omega)
    have eR : (fun i j : Int => V.int (i * 2 ^ j.toNat)) 1 ((k : Int) - (lv : Int)) = V.int ((2 ^ (k - lv) : Nat) : Int) := by
      refine congrArg V.int ?_
      rw [show (k : Int) - (lv : Int) = ((k - lv : Nat) : Int) by omega, Int.one_mul, Int.toNat_natCast]
      push_cast
      rfl
    have r1 : 1 ≤ 2 ^ (k - lv) := Nat.one_le_two_pow
    try walk_at "go"
    rw [eR]
    clear eR
    obtain ⟨R, eR⟩ : ∃ R, R = 2 ^ (k - lv) := ⟨_, rfl⟩
    rw [← eR] at r1 hx hg ⊢
    have LA6 := LA5.same S6
    have la6 := LA6.1
    intro M2 hM2
    refine lc_list (K := K) (a := L) (xs := (kA xs it.ns).map fun x => V.ref x.a) (fun i H' => Same H6 H' ∧ H' M2 = some (.lst ((List.replicate i ((l % R : Nat) : Int)).map V.int))) ⟨same_new hM2 _, upd_same⟩ (fun i H' _ h => SqL.of (h.1 _ _ la6)) ?_ ?_
    · rintro i y H7 hi ⟨S7, m7⟩
      rw [List.getElem?_map] at hi
      obtain ⟨x, ex, rfl⟩ := Option.map_eq_some_iff.mp hi
      have xm := List.mem_of_getElem? ex
      have hi2 := (List.getElem?_eq_some_iff.mp ex).1
      have y1 : H7 x.a = some (.tup [.int x.hand, .int (x.box : Nat), .ref x.da]) := S7 _ _ (LA6.2 x xm).1
      have xh := (hx x xm).2
      have ll : ((List.replicate i ((l % R : Nat) : Int)).map V.int).length ≤ 40 := by rw [List.length_map, List.length_replicate]; omega
      try walk_at "go"
      exact ⟨but_same hM2 S7 But.upd, by rw [upd_same, show (fun i j : Int => V.int (i % j)) x.hand (R : Int) = V.int ((l % R : Nat) : Int) from congrArg V.int xh, List.replicate_succ', List.map_append] <;> rfl⟩
    rintro H7 ⟨S7, m7⟩
    rw [List.length_map, kl] at m7
    have la7 := S7 _ _ la6
    try walk_at "go"
    intro G8 hG8
    generalize eH8 : upd _ G8 _ = H8
    have SH8 := newS eH8 hG8
    have oG8 := newO eH8
    have la8 := SH8 _ _ la7
    try walk_at "go"
    rw [lal]
    intro G9 hG9
    generalize eH9 : upd _ G9 _ = H9
    have SH9 := newS eH9 hG9
    have oG9 := newO eH9
    have em : (fun i j : Int => V.int (i % j)) (l : Int) (R : Int) = V.int ((l % R : Nat) : Int) := congrArg V.int (by push_cast; rfl)
    have o9 : H9 G9 = some (.lst ((List.replicate it.ns.length ((l % R : Nat) : Int)).map V.int)) := by rw [oG9, Int.toNat_natCast, em, rep_flatI]
    have m9 := SH9 _ _ (SH8 _ _ m7)
    refine ⟨_, _, .lst (SqL.of m9) (ints_dp _), .lst (SqL.of o9) (ints_dp _), Ly.lstI.sh, Ly.lstI.sh, ?_⟩
    rw [Ly.lstI.refl]
    refine ⟨_, rfl, ?_⟩
    refine ifF rfl ?_
    have shk : CShl 1 (k : Int) := shl_ok (by omega)
    have eL : (1 : Int) * 2 ^ ((k : Nat) : Int).toNat = ((2 ^ k : Nat) : Int) := by rw [Int.one_mul, Int.toNat_natCast]; push_cast; rfl
    have e1 : 1 ≤ 2 ^ k := Nat.one_le_two_pow
    have cd : ∀ n : Int, CDivW n (R : Int) := fun n => ⟨by omega, Nat.lt_trans (log_lt (n := 10) (by omega) (by have : R ≤ 16 := eR ▸ Nat.pow_le_pow_right (n := 2) (by decide) (show k - lv ≤ 4 by omega); omega)) (by decide)⟩
    have cd1 := cd (l : Int)
    have cd2 := cd (((it.box : Nat) : Int) % (1 * 2 ^ ((k : Nat) : Int).toNat))
    try walk_at "go"
    have ef : (decide ((fun i j : Int => V.int (i / j)) (l : Int) (R : Int) = (fun i j : Int => V.int (i / j)) (((it.box : Nat) : Int) % (1 * 2 ^ ((k : Nat) : Int).toNat)) (R : Int))) = true := by
      refine decide_eq_true (congrArg V.int ?_)
      rw [eL]
      have : ((l / R : Nat) : Int) = ((it.box % 2 ^ k / R : Nat) : Int) := congrArg Nat.cast hg
      push_cast at this ⊢
      exact this
    rw [ef]
    exact q H9 (S5.trans (S6.trans (S7.trans (SH8.trans SH9))))
/-! SPLIT -/
omit B in
theorem idx_uniq {α : Type} {f : α → Nat} {us : List α} (h : (us.map f).Pairwise (· < ·)) {u v : α} (hu : u ∈ us) (hv : v ∈ us) (e : f u = f v) : u = v := by
  obtain ⟨i, hi, rfl⟩ := List.mem_iff_getElem.mp hu
  obtain ⟨j, hj, rfl⟩ := List.mem_iff_getElem.mp hv
  rw [List.pairwise_map] at h
  rcases Nat.lt_trichotomy i j with g | g | g
  · have := List.pairwise_iff_getElem.mp h i j hi hj g
    omega
  · subst g; rfl
  · have := List.pairwise_iff_getElem.mp h j i hj hi g
    omega
def pU (u : Addr × Nat) : Prw := (u.1, [((u.2 : Nat) : Int)], [])
omit B in
theorem pU_sort {us : List (Addr × Nat)} {ls : List Prw} (h : (us.map fun u => u.2).Pairwise (· < ·)) (b : ∀ u ∈ us, u.2 < 40) (pm : ls.Perm (us.map pU)) (sr : ls.Pairwise fun x y => PS.cd 100 x.2.1 ≤ PS.cd 100 y.2.1) : ls = us.map pU := by
  have bs : ∀ u ∈ us, PS.Bs 100 [((u.2 : Nat) : Int)] := fun u hu m hm => by
    have := b u hu
    rw [List.mem_singleton.mp hm]
    omega
  refine List.Perm.eq_of_pairwise (le := fun x y : Prw => PS.cd 100 x.2.1 ≤ PS.cd 100 y.2.1) (fun x y mx my h1 h2 => ?_) sr ?_ pm
  · obtain ⟨u, hu, rfl⟩ := List.mem_map.mp (pm.mem_iff.mp mx)
    obtain ⟨v, hv, rfl⟩ := List.mem_map.mp my
    rcases PS.cd_le (ns := [((u.2 : Nat) : Int)]) (ms := [((v.2 : Nat) : Int)]) rfl (bs u hu) (bs v hv) h1 with e | e
    · have e2 : u.2 = v.2 := Int.ofNat.inj (List.cons.inj e).1
      rw [idx_uniq h hu hv e2]
    · exact absurd h2 (Int.not_le.mpr e)
  · rw [List.pairwise_map] at h
    rw [List.pairwise_map]
    refine h.imp_of_mem fun {u v} hu hv huv => ?_
    exact Int.le_of_lt (PS.cd_head rfl (fun m hm => absurd hm List.not_mem_nil) (fun m hm => absurd hm List.not_mem_nil) (by omega))
def spAsPut (K : PySem.W.Frag) : Sp := fun vs H Q _ => ∃ (a : Addr) (ts : List (Addr × Itm)), vs = [.ref a] ∧ H a = some (.tup (ts.map fun x => V.ref x.1)) ∧ (∀ x ∈ ts, ItAt H x.1 x.2 ∧ ∃ n, x.2.ns = [n] ∧ n < 40) ∧ (ts.map fun x => x.2).Pairwise (fun a b => a.ns.headD 0 < b.ns.headD 0) ∧ ts.length ≤ 40 ∧ ∀ H', Same H H' → Q (.bl true) H'
theorem k__law_as_put (D : Df K mg "_law_as_put" s__law_as_put ["_law_row"]) : Dn P w K mg base 1 "_law_as_put" ["_law_row"] (spAsPut K) := by
  refine D.ok fun f fd F => okG0 F sc__law_as_put (fun vs H Q E h => ?_) (fun cdv A outer s H vs Q E hr h => ⟨_, (pss_cons (ps_setLc (i := 1) (own := [("_law_one", 2)]) (g := gName 2) (tt := tYes) rfl sc__law_as_put.nd rfl rfl (sw_true rfl rfl rfl (by decide +kernel)) (kk (K := K) (F := fun K => iTup K _) (P := PI _ _ _) (pi_tup (pv 0))) (blkOk_by (own := [("_law_one", 2)]) (N := ["_law_row", "_law_numbers", "_law_one", "_law_some"]) (sc := defScope s__law_as_put) (by decide +kernel)) (fun _ _ _ _ _ => (pg_name (i := 2) sc__law_as_put.nd rfl (Or.inl rfl))) (fun _ _ _ _ _ => pts_nil) (fun _ _ _ _ _ => (pe_ix (kk (K := K) (F := rIxT) (P := IxR _) ix_tup) (pv 2) pe_int (fun _ _ => rfl))))
    (pss_one (ps_ret (pe_and (pe_cmpR (kk (K := K) (F := rEqD) (P := OpR _ _) (op_eqD hr.units)) (pv 1) (pe_callB (kk (K := K) (F := rSortP) (P := CallR _ _) cr_sortP) (by rfl) B.sorted_ (by decide +kernel) (pa_cons (pv 1) pa_nil)) (nomark _)) (pe_one (pe_callB (kk (K := K) (F := rAll) (P := CallR _ _) (cr_all rfl)) (by rfl) B.all_ (by decide +kernel) (pa_cons (pe_lc (own := [("_law_some", 3)]) (g := gName 3) (tt := tYes) rfl sc__law_as_put.nd (kk (K := K) (F := fun K => iList K _) (P := PI _ _ _) (pi_list (pv 1))) (blkOk_by (own := [("_law_some", 3)]) (N := ["_law_row", "_law_numbers", "_law_one", "_law_some"]) (sc := defScope s__law_as_put) (by decide +kernel)) (fun _ _ _ _ _ => (pg_name (i := 3) sc__law_as_put.nd rfl (Or.inl rfl))) (fun _ _ _ _ _ => pts_nil) (fun _ _ _ _ _ => (pe_cmpR op_eq (pe_callB (lenK (K := K)) (by rfl) B.len_ (by decide +kernel) (pa_cons (pv 3) pa_nil)) pe_int (nomark _)))) pa_nil))))))), ?_⟩)
  · obtain ⟨a, ts, rfl, _⟩ := h; rfl
  · obtain ⟨a, ts, rfl, ha, hts, hp, hl, q⟩ := h
    try walk_at "go"
    intro L hL
    refine lc_tup (K := K) (a := a) (xs := ts.map fun x => V.ref x.1) (fun i H' => Same H H' ∧ ∃ us : List (Addr × Nat), H' L = some (.lst (us.map fun u => V.ref u.1)) ∧ us.map (fun u => u.2) = (ts.take i).map (fun x => x.2.ns.headD 0) ∧ ∀ u ∈ us, H' u.1 = some (.tup [.int (u.2 : Nat)]) ∧ u.2 < 40) ⟨same_new hL _, [], upd_same, rfl, fun u hu => absurd hu List.not_mem_nil⟩ (fun i H' _ h => SqT.of (h.1 _ _ ha)) ?_ ?_
    · rintro i y H1 hi ⟨S1, us, l1, l2, l3⟩
      rw [List.getElem?_map] at hi
      obtain ⟨x, ex, rfl⟩ := Option.map_eq_some_iff.mp hi
      obtain ⟨⟨da, na, i1, i2, i3⟩, n, en, n40⟩ := hts x (List.mem_of_getElem? ex)
      have hi2 := (List.getElem?_eq_some_iff.mp ex).1
      have i11 := S1 _ _ i1
      have ul : us.length = i := by
        have := congrArg List.length l2
        rw [List.length_map, List.length_map, List.length_take] at this
        omega
      have ll : (us.map fun u => V.ref u.1).length ≤ 40 := by rw [List.length_map]; omega
      try walk_at "go"
      refine ⟨but_same hL S1 But.upd, us ++ [(na, n)], by rw [upd_same, List.map_append] <;> rfl, by rw [List.map_append, l2, take_snoc ex, List.map_append, List.map_cons, List.map_cons, en] <;> rfl, fun u hu => ?_⟩
      have h1 : H1 u.1 = some (.tup [.int (u.2 : Nat)]) ∧ u.2 < 40 := by
        rcases List.mem_append.mp hu with w | w
        · exact l3 u w
        · rw [List.mem_singleton.mp w]
          refine ⟨?_, n40⟩
          have := S1 _ _ i3
          rw [en] at this
          exact this
      exact ⟨by rw [upd_ne (ne_of h1.1 l1 (fun z => by cases z))]; exact h1.1, h1.2⟩
    rintro H1 ⟨S1, us, l1, l2, l3⟩
    rw [List.length_map, List.take_length] at l2
    have up : (us.map fun u => u.2).Pairwise (· < ·) := by
      rw [l2, List.pairwise_map]
      rw [List.pairwise_map] at hp
      exact hp
    have ul : us.length ≤ 40 := by
      have := congrArg List.length l2
      rw [List.length_map, List.length_map] at this
      omega
    have hPG : H1 L = some (.lst ((us.map pU).map fun x => V.ref x.1)) := by rw [l1, List.map_map] <;> rfl
    have lLs : (us.map pU).length < 64 := by rw [List.length_map]; omega
    have nd : ((us.map pU).map fun x => x.2.1).Nodup := by
      rw [List.map_map]
      rw [List.pairwise_map] at up
      refine List.pairwise_map.mpr (up.imp fun {u v} h z => ?_)
      have z : [((u.2 : Nat) : Int)] = [((v.2 : Nat) : Int)] := z
      have := Int.ofNat.inj (List.cons.inj z).1
      omega
    have hP : 1 ≤ 1 ∧ ((us.map pU).map fun x => x.2.1).Nodup ∧ ∀ x ∈ us.map pU, SqT K H1 x.1 (x.2.1.map V.int ++ x.2.2) ∧ x.2.1.length = 1 ∧ (x.2.1.length + x.2.2.length = 1) ∧ PS.Bs 100 x.2.1 := ⟨Nat.le_refl _, nd, fun x hx => by
      obtain ⟨u, hu, rfl⟩ := List.mem_map.mp hx
      obtain ⟨u1, u2⟩ := l3 u hu
      refine ⟨SqT.of u1, rfl, rfl, fun m hm => ?_⟩
      rw [List.mem_singleton.mp hm]
      omega⟩
    clear l1
    try walk_at "go"
    intro ls R pm sr hR
    obtain rfl := pU_sort up (fun u hu => (l3 u hu).2) pm sr
    have oR := upd_same (H := H1) (a := R) (o := .lst ((us.map pU).map fun x => V.ref x.1))
    have SR := same_new hR (.lst ((us.map pU).map fun x => V.ref x.1))
    generalize upd H1 R (.lst ((us.map pU).map fun x => V.ref x.1)) = H2 at oR SR
    have l12 := SR _ _ hPG
    have dp : ∀ Z, H2 Z = some (.lst ((us.map pU).map fun x => V.ref x.1)) → Dp K H2 (.ref Z) (.list (us.map fun u => .tuple ([((u.2 : Nat) : Int)].map PyData.int))) := fun Z hZ => by
      refine .lst (SqL.of hZ) (dpAll_of (by rw [List.length_map, List.length_map, List.length_map]) fun i x d hx hd => ?_)
      rw [List.getElem?_map, List.getElem?_map] at hx
      rw [List.getElem?_map] at hd
      obtain ⟨p, hp2, rfl⟩ := Option.map_eq_some_iff.mp hx
      obtain ⟨u, hu, rfl⟩ := Option.map_eq_some_iff.mp hp2
      rw [hu] at hd
      cases hd
      exact tupI_dp (ns := [((u.2 : Nat) : Int)]) (SqT.of (SR _ _ (l3 u (List.mem_of_getElem? hu)).1))
    have ly : Ly 2 (.list (us.map fun u => .tuple ([((u.2 : Nat) : Int)].map PyData.int))) := .lst fun d hd => by
      obtain ⟨u, _, rfl⟩ := List.mem_map.mp hd
      exact Ly.tupI
    refine ⟨_, _, dp L l12, dp R oR, ly.sh, ly.sh, ?_⟩
    rw [ly.refl]
    refine ⟨_, rfl, ?_⟩
    refine ifT rfl ?_
    have l13 : H2 L = some (.lst (us.map fun u => V.ref u.1)) := by rw [l12, List.map_map] <;> rfl
    clear hPG l12 oR dp
    try walk_at "go"
    intro M hM
    refine lc_list (K := K) (a := L) (xs := us.map fun u => V.ref u.1) (fun i H' => Same H2 H' ∧ H' M = some (.lst ((List.replicate i true).map V.bl))) ⟨same_new hM _, upd_same⟩ (fun i H' _ h => SqL.of (h.1 _ _ l13)) ?_ ?_
    · rintro i y H3 hi ⟨S3, m3⟩
      rw [List.getElem?_map] at hi
      obtain ⟨u, eu, rfl⟩ := Option.map_eq_some_iff.mp hi
      have u3 := S3 _ _ (SR _ _ (l3 u (List.mem_of_getElem? eu)).1)
      have hi2 := (List.getElem?_eq_some_iff.mp eu).1
      have ll : ((List.replicate i true).map V.bl).length ≤ 40 := by rw [List.length_map, List.length_replicate]; omega
      try walk_at "go"
      exact ⟨but_same hM S3 But.upd, by rw [upd_same]; exact congrArg (fun z => some (HO.lst z)) (rep_snoc (n := i))⟩
    rintro H3 ⟨S3, m3⟩
    try walk_at "go"
    rw [rep_all]
    exact q H3 (S1.trans (SR.trans S3))
/-! SPLIT -/
omit B in
theorem sum_L {α : Type} (F : α → Nat) : ∀ qs : List α, (qs.map fun q => ((F q : Nat) : Int)).sum = ((sumL F qs : Nat) : Int)
  | [] => rfl
  | q :: qs => by
    rw [List.map_cons, List.sum_cons, sum_L F qs]
    show _ = ((F q + sumL F qs : Nat) : Int)
    omega
/-- the law's asks, as the plain law knows them -/
def asN (xs : List Ak) : List (Nat × Nat × Dd) := xs.map fun x => (x.hand.toNat, x.box, x.d)
omit B in
theorem gA_as (xs : List Ak) (n : Nat) : gA (asN xs) n = ((xs.getD n ⟨0, 0, 0, 0, ⟨0, none, none⟩⟩).hand.toNat, (xs.getD n ⟨0, 0, 0, 0, ⟨0, none, none⟩⟩).box, (xs.getD n ⟨0, 0, 0, 0, ⟨0, none, none⟩⟩).d) := by
  unfold gA asN
  rw [List.getD_eq_getElem?_getD, List.getD_eq_getElem?_getD, List.getElem?_map]
  cases xs[n]? <;> rfl
omit B in
theorem kA_fold (xs : List Ak) (ns : List Nat) (v : Int) : fA (asN xs) ns v = (kA xs ns).foldl (fun v x => x.d.ap v) v := by
  unfold fA kA
  rw [List.foldl_map]
  congr 1
  funext v n
  rw [gA_as]
omit B in
theorem kA_ok {xs : List Ak} {ns : List Nat} {b l r : Nat} (hh : ∀ x ∈ xs, 0 ≤ x.hand) (hb : ∀ n ∈ ns, (gA (asN xs) n).2.1 = b) (hl : ∀ n ∈ ns, (gA (asN xs) n).1 % r = l % r) (hn : ∀ n ∈ ns, n < xs.length) : ∀ x ∈ kA xs ns, x.box = b ∧ x.hand % ((r : Nat) : Int) = ((l % r : Nat) : Int) := fun x hx => by
  obtain ⟨n, hm, rfl⟩ := List.mem_map.mp hx
  have h1 := hb n hm
  have h2 := hl n hm
  rw [gA_as] at h1 h2
  have h3 : 0 ≤ (xs.getD n ⟨0, 0, 0, 0, ⟨0, none, none⟩⟩).hand := by
    refine hh _ ?_
    rw [List.getD_eq_getElem?_getD, List.getElem?_eq_getElem (hn n hm)]
    exact List.getElem_mem (hn n hm)
  refine ⟨h1, ?_⟩
  rw [← h2]
  show _ = (((xs.getD n ⟨0, 0, 0, 0, ⟨0, none, none⟩⟩).hand.toNat % r : Nat) : Int)
  rw [Int.natCast_emod, Int.toNat_of_nonneg h3]
def spBounds (K : PySem.W.Frag) (C : Addr) : Sp := fun vs H Q _ => ∃ (ad : Nm → Addr) (st : NS) (k r c : Nat) (D : Addr) (xs : List Ak), vs = [.ref (ad .me), .int (k : Nat), .int (r : Nat), .int (c : Nat), .ref D] ∧ st.k = k ∧ st.room = r ∧ st.kept = c ∧ NetAt C H ad st ∧ Iv st ∧ Gh st (asN xs) ∧ LaAt H D xs ∧ (∀ x ∈ xs, 0 ≤ x.hand) ∧ ∀ H', Same H H' → Q (.bl true) H'
theorem k__law_bounds (D : Df K mg "_law_bounds" s__law_bounds ["_law_net", "_law_k", "_law_room", "_law_kept", "_law_asks"]) (D_Net__log : DnM P w K mg base (cAt mg "Net") 1 "log" ["self"] (spLog K (cAt mg "Net"))) (D_Net__waiting : DnM P w K mg base (cAt mg "Net") 5 "waiting" ["self", "level", "line"] (spWaiting K (cAt mg "Net"))) (D_Net__joinings : DnM P w K mg base (cAt mg "Net") 14 "joinings" ["self", "stage", "number"] (spJoins K (cAt mg "Net"))) (D__law_spots : Dn P w K mg base 1 "_law_spots" ["_law_first", "_law_k", "_law_many"] spSpotsX) (D__law_entry : Dn P w K mg base 4 "_law_entry" ["_law_k", "_law_level", "_law_line", "_law_one", "_law_asks"] (spEntry K)) (D__law_as_put : Dn P w K mg base 1 "_law_as_put" ["_law_row"] (spAsPut K)) : Dn P w K mg base 15 "_law_bounds" ["_law_net", "_law_k", "_law_room", "_law_kept", "_law_asks"] (spBounds K (cAt mg "Net")) := by
  refine D.ok fun f fd F => okG0 F sc__law_bounds (fun vs H Q E h => ?_) (fun cdv A outer s H vs Q E hr h => ⟨_, (pss_cons (ps_set (i := 5) sc__law_bounds.nd rfl (Or.inl rfl) (pe_callTy (lstOfK (K := K)) (by rfl) B.list_ (by decide +kernel) (pa_cons (pe_mG0 D_Net__log B.Net_.cl (hr.less (by decide)) (pv 0)) pa_nil)))
    (pss_cons (ps_set (i := 6) sc__law_bounds.nd rfl (Or.inl rfl) pe_int)
    (pss_cons (ps_for PassesOwn.never rfl (kk (K := K) (F := fun K => iList K _) (P := PI _ _ _) (pi_list (pe_cD D__law_spots (hr.less (by decide)) rfl (pa_cons pe_int (pa_cons (pv 1) (pa_cons (pe_op op_shlW pe_int (pv 1)) pa_nil)))))) (kk (K := K) (F := fun K => gTup K 2 _) (P := PG _ _) (pg_tup rfl (pgs_cons (pg_name (i := 7) sc__law_bounds.nd rfl (Or.inl rfl)) (pgs_cons (pg_name (i := 8) sc__law_bounds.nd rfl (Or.inl rfl)) pgs_nil))))
      (pss_cons (ps_set (i := 9) sc__law_bounds.nd rfl (Or.inl rfl) (pe_mG D_Net__waiting B.Net_.cl (hr.less (by decide)) (pv 0) (pa_cons (pv 7) (pa_cons (pv 8) pa_nil))))
      (C8.pss_cut (ps_if (PW.pt (pw_or (PW.pt (pw_and (pt_cmpR op_gt (pv 7) pe_int (nomark _)) (pw_and1 (pt_cmpR op_gt (pe_callB (lenK (K := K)) (by rfl) B.len_ (by decide +kernel) (pa_cons (pv 9) pa_nil)) (pv 2) (nomark _))))) (pw_or1 (PW.pt (pw_and (pt_cmpR op_eq (pv 7) pe_int (nomark _)) (pw_and1 (pt_not (pt_val (pe_cD D__law_as_put (hr.less (by decide)) rfl (pa_cons (pv 9) pa_nil))))))))))
        (pss_one (ps_ret pe_bl))
        pss_nil)
      (pss_one (ps_for PassesOwn.never rfl (kk (K := K) (F := fun K => iTup K _) (P := PI _ _ _) (pi_tup (pv 9))) (pg_name (i := 10) sc__law_bounds.nd rfl (Or.inl rfl))
       (pss_cons (ps_if (pt_not (pt_val (pe_cD D__law_entry (hr.less (by decide)) rfl (pa_cons (pv 1) (pa_cons (pv 7) (pa_cons (pv 8) (pa_cons (pv 10) (pa_cons (pv 4) pa_nil))))))))
         (pss_one (ps_ret pe_bl))
         pss_nil)
       (pss_cons (ps_expr (kk (K := K) (F := fun K => tBM K "list" _ _ _) (P := PE _ _) (pe_bm PySem.F.plainAttrs_list PySem.F.slot_list_extend PySem.F.type_list_extend mt_extendT (pv 5) (pa_cons (pe_ix (kk (K := K) (F := rIxT) (P := IxR _) ix_tup) (pv 10) pe_int (fun _ _ => rfl)) pa_nil))))
       (pss_one (ps_set (i := 6) sc__law_bounds.nd rfl (Or.inl rfl) (pe_op op_sub (pe_op op_add (pv 6) (pe_callB (lenK (K := K)) (by rfl) B.len_ (by decide +kernel) (pa_cons (pe_ix (kk (K := K) (F := rIxT) (P := IxR _) ix_tup) (pv 10) pe_int (fun _ _ => rfl)) pa_nil))) pe_int))))))))))
    (pss_cons (ps_setLc (i := 11) (own := [("_law_stage", 12), ("_law_number_here", 13)]) (tt := tYes) rfl sc__law_bounds.nd rfl rfl (sw_true rfl rfl rfl (by decide +kernel)) (kk (K := K) (F := fun K => iList K _) (P := PI _ _ _) (pi_list (pe_cD D__law_spots (hr.less (by decide)) rfl (pa_cons pe_int (pa_cons (pv 1) (pa_cons (pe_op op_fdivW (pe_op op_shlW pe_int (pv 1)) pe_int) pa_nil)))))) (blkOk_by (own := [("_law_stage", 12), ("_law_number_here", 13)]) (N := ["_law_net", "_law_k", "_law_room", "_law_kept", "_law_asks", "_law_found", "_law_more", "_law_level", "_law_line", "_law_row", "_law_one", "_law_pairs", "_law_stage", "_law_number_here"]) (sc := defScope s__law_bounds) (by decide +kernel)) (fun _ _ _ _ _ => (kk (K := K) (F := fun K => gTup K 2 _) (P := PG _ _) (pg_tup rfl (pgs_cons (pg_name (i := 12) sc__law_bounds.nd rfl (Or.inl rfl)) (pgs_cons (pg_name (i := 13) sc__law_bounds.nd rfl (Or.inl rfl)) pgs_nil))))) (fun _ _ _ _ _ => pts_nil) (fun _ _ _ _ _ => (pe_mG D_Net__joinings B.Net_.cl (hr.less (by decide)) (pv 0) (pa_cons (pv 12) (pa_cons (pv 13) pa_nil)))))
    (pss_cons (ps_if (PW.pt (pw_or (pt_cmpR op_gt (pe_callB (kk (K := K) (F := rMax) (P := CallR _ _) (cr_max rfl)) (by rfl) B.max_ (by decide +kernel) (pa_cons (pe_op op_cat (pv 11) (pe_lst (pa_cons pe_int pa_nil))) pa_nil)) (pv 3) (nomark _)) (pw_or1 (pt_cmpR op_lt (pe_callB (kk (K := K) (F := rSum) (P := CallR _ _) (cr_sum rfl)) (by rfl) B.sum_ (by decide +kernel) (pa_cons (pv 11) pa_nil)) (pv 6) (nomark _)))))
      (pss_one (ps_ret pe_bl))
      pss_nil)
    (pss_one (ps_ret (pe_cmpR (kk (K := K) (F := rEqD) (P := OpR _ _) (op_eqD hr.units)) (pe_callB (kk (K := K) (F := rSortedI) (P := CallR _ _) cr_sortedI) (by rfl) B.sorted_ (by decide +kernel) (pa_cons (pv 5) pa_nil)) (pe_listRg rfl (by rfl) B.list_ (prg_1 rfl B.range_ (pe_callB (lenK (K := K)) (by rfl) B.len_ (by decide +kernel) (pa_cons (pv 4) pa_nil)))) (nomark _))))))))), ?_⟩)
  · obtain ⟨ad, st, k, r, c, D, xs, rfl, _⟩ := h; rfl
  · obtain ⟨ad, st, _, _, _, D, xs, rfl, rfl, rfl, rfl, N, iv, gh, hD, hh, q⟩ := h
    obtain ⟨cl0, n1, n2, n3, n4, n5, n6, n7, n8, n9, n10, n11⟩ := netNo B
    obtain ⟨dx, me⟩ := N.top
    have hk := iv.wf.k4
    have sh : CShl 1 (st.k : Int) := shl_ok (by omega)
    have e16 : 2 ^ st.k ≤ 16 := Nat.pow_le_pow_right (n := 2) (by decide) hk
    have eN : 1 * 2 ^ ((st.k : Nat) : Int).toNat = 2 ^ st.k := by rw [Int.toNat_natCast, Nat.one_mul]
    try walk_at "go"
    intro Lg H1 S1 oL
    try walk_at "go"
    intro F hF
    generalize eH2 : upd _ F _ = H2
    have SH2 := newS eH2 hF
    have oF := newO eH2
    have S02 := S1.trans SH2
    have hF0 : H F = none := none_bk S1 hF
    have me2 := S02 _ _ me
    have N2 := N.same S02
    try walk_at "go"
    rw [eN]
    intro E ts H3 S3 hE e3 t3 n3
    have oF3 := S3 _ _ oF
    have S03 := S02.trans S3
    have nEF : E ≠ F := fun z => by rw [z, oF] at hE; cases hE
    have hE0 : H E = none := none_bk S02 hE
    have hD3 := hD.same S03
    -- what was found by then
    obtain ⟨fi, efi⟩ : ∃ fi : (Itm → List Nat) → Nat → List Nat, fi = fun G i => ((spL 0 st.k (2 ^ st.k)).take i).flatMap fun p => (st.rows p.1 p.2).flatMap G := ⟨_, rfl⟩
    have fall : ∀ G, fi G (spL 0 st.k (2 ^ st.k)).length = onAll G st := fun G => by rw [efi]; show ((spL 0 st.k (2 ^ st.k)).take _).flatMap _ = _; rw [List.take_length]; rfl
    have fstep : ∀ G i p, (spL 0 st.k (2 ^ st.k))[i]? = some p → fi G (i + 1) = fi G i ++ (st.rows p.1 p.2).flatMap G := fun G i p hp => by rw [efi]; show ((spL 0 st.k (2 ^ st.k)).take (i + 1)).flatMap _ = _; rw [take_snoc hp, List.flatMap_append, List.flatMap_cons, List.flatMap_nil, List.append_nil]
    have fle : ∀ i, st.ord.length + (fi Itm.ns i).length ≤ 40 := fun i => by
      have a := iv.found.length_eq
      rw [List.length_append, List.length_range] at a
      have b : onAll Itm.ns st = fi Itm.ns i ++ ((spL 0 st.k (2 ^ st.k)).drop i).flatMap fun p => (st.rows p.1 p.2).flatMap Itm.ns := by
        rw [efi]
        show _ = ((spL 0 st.k (2 ^ st.k)).take i).flatMap _ ++ _
        rw [← List.flatMap_append, List.take_append_drop]
        rfl
      have c := congrArg List.length b
      rw [List.length_append] at c
      have := iv.wf.n40
      omega
    have fi0 : ∀ G, fi G 0 = [] := fun G => by rw [efi]; rfl
    have xl : xs.length = st.asked.length := by rw [gh.as]; unfold asN; rw [List.length_map, List.length_map]
    have n40 := iv.wf.n40
    try walk_at "go"
    refine for_list (K := K) (a := E) (xs := ts.map V.ref) (fun i σ H' => Kept (∃ (v7 v8 v9 v10 v11 v12 v13 : Option V), σ = [some (.ref (ad .me)), some (.int (st.k : Nat)), some (.int (st.room : Nat)), some (.int (st.kept : Nat)), some (.ref D), some (.ref F), some (.int ((fi (fun it => it.ns.tail) i).length : Nat)), v7, v8, v9, v10, v11, v12, v13] ∧ But F H3 H' ∧ H' F = some (.lst ((st.ord ++ fi Itm.ns i).map fun n => V.int (n : Nat))))) ⟨_, _, _, _, _, _, _, by rw [fi0] <;> rfl, fun _ _ _ h => h, by rw [fi0, List.append_nil]; exact oF3⟩ (fun i σ H' _ h => by obtain ⟨_, _, _, _, _, _, _, _, b, _⟩ := h; exact SqL.of (b _ _ nEF e3)) ?_ ?_
    · rintro i v σ H4 hi ⟨v7, v8, v9, v10, v11, v12, v13, rfl, b4, f4⟩
      rw [List.getElem?_map] at hi
      obtain ⟨t, ht, rfl⟩ := Option.map_eq_some_iff.mp hi
      have hi2 : i < ts.length := (List.getElem?_eq_some_iff.mp ht).1
      have hi3 : i < (spL 0 st.k (2 ^ st.k)).length := by rw [← t3.1]; exact hi2
      have hp := List.getElem?_eq_getElem hi3
      have tF : ∀ {a : Addr} {zs : List V}, H3 a = some (.tup zs) → H4 a = some (.tup zs) := fun {a zs} h => b4 _ _ (ne_of h oF3 (fun z => by cases z)) h
      have ot := tF (t3.2 i t _ ht hp)
      obtain ⟨q1, q2, q3⟩ := spL_mem.mp (List.getElem_mem hi3)
      generalize (spL 0 st.k (2 ^ st.k))[i] = p at hp ot q1 q2 q3
      have S04 : Same H H4 := but_same hF0 S03 b4
      have N4 := N.same S04
      have me4 := S04 _ _ me
      try walk_at "go"
      intro Rw H5 us S5 oR us2 us3
      have ul : us.length = (st.rows p.1 p.2).length := by rw [← us2, List.length_map]
      have uR : (us.map fun x => V.ref x.1).length = us.length := List.length_map _
      have r40 := iv.wl_.len p.1 p.2
      try walk_at "go"
      refine ⟨fun σ H' => σ = [some (.ref (ad .me)), some (.int (st.k : Nat)), some (.int (st.room : Nat)), some (.int (st.kept : Nat)), some (.ref D), some (.ref F), some (.int ((fi (fun it => it.ns.tail) i).length : Nat)), some (.int (p.1 : Nat)), some (.int (p.2 : Nat)), some (.ref Rw), v10, v11, v12, v13] ∧ Same H5 H', ?_, ?_⟩
      · by_cases c : p.1 = 0
        · have hit : ∀ x ∈ us, ItAt H5 x.1 x.2 ∧ ∃ n, x.2.ns = [n] ∧ n < 40 := fun x hx => by
            have xm : x.2 ∈ st.rows 0 p.2 := by rw [← c, ← us2]; exact List.mem_map.mpr ⟨x, hx, rfl⟩
            obtain ⟨n, en⟩ := gh.z0 p.2 x.2 xm
            exact ⟨us3 x hx, n, en, by have := (iv.nlt xm (by rw [en]; exact List.mem_singleton.mpr rfl)).1; omega⟩
          have hup : (us.map fun x => x.2).Pairwise (fun a b => a.ns.headD 0 < b.ns.headD 0) := by rw [us2, c]; exact gh.up p.2
          have ul40 : us.length ≤ 40 := by omega
          try walk_at "go"
          refine ifF (decide_eq_false (by omega)) ?_
          refine ifF rfl ?_
          try walk_at "go"
          refine ifT (decide_eq_true (congrArg V.int (by omega))) ?_
          try walk_at "go"
          intro H6 S6
          refine ⟨_, rfl, ifF rfl ?_⟩
          try walk_at "go"
          first | exact ⟨rfl, S6⟩ | exact S6
        · have rm := gh.rm p.1 p.2 (by omega)
          try walk_at "go"
          refine ifT (decide_eq_true (by omega)) ?_
          try walk_at "go"
          refine ifF (decide_eq_false (by omega)) ?_
          try walk_at "go"
          refine ifF (decide_eq_false (fun z => c (by have := V.int.inj z; omega))) ?_
          try walk_at "go"
          first | exact ⟨rfl, Same.refl _⟩ | exact Same.refl _
      rintro σ H6 ⟨rfl, S6⟩
      have oR6 := S6 _ _ oR
      have b6 : But F H3 H6 := b4.trans (same_but (S5.trans S6))
      have f6 := (S5.trans S6) _ _ f4
      have hx3 : ∀ x ∈ us, ItAt H6 x.1 x.2 := fun x hx => (us3 x hx).tk (TK.same S6)
      try walk_at "go"
      refine for_tup (K := K) (a := Rw) (xs := us.map fun x => V.ref x.1) (fun j σ H' => Kept (∃ (v10 v11 v12 v13 : Option V), σ = [some (.ref (ad .me)), some (.int (st.k : Nat)), some (.int (st.room : Nat)), some (.int (st.kept : Nat)), some (.ref D), some (.ref F), some (.int ((fi (fun it => it.ns.tail) i ++ (us.take j).flatMap fun x => x.2.ns.tail).length : Nat)), some (.int (p.1 : Nat)), some (.int (p.2 : Nat)), some (.ref Rw), v10, v11, v12, v13] ∧ But F H6 H' ∧ H' F = some (.lst ((st.ord ++ (fi Itm.ns i ++ (us.take j).flatMap fun x => x.2.ns)).map fun n => V.int (n : Nat))))) ⟨_, _, _, _, by rw [List.take_zero, List.flatMap_nil, List.append_nil], fun _ _ _ h => h, by rw [List.take_zero, List.flatMap_nil, List.append_nil]; exact f6⟩ (fun j σ H' _ h => by obtain ⟨_, _, _, _, _, b, _⟩ := h; exact SqT.of (b _ _ (ne_of oR6 f6 (fun z => by cases z)) oR6)) ?_ ?_
      · rintro j v σ H7 hj ⟨v10, v11, v12, v13, rfl, b7, f7⟩
        rw [List.getElem?_map] at hj
        obtain ⟨x, hx, rfl⟩ := Option.map_eq_some_iff.mp hj
        have xu := List.mem_of_getElem? hx
        have xm : x.2 ∈ st.rows p.1 p.2 := by rw [← us2]; exact List.mem_map.mpr ⟨x, xu, rfl⟩
        have tF7 : ∀ {a : Addr} {zs : List V}, H6 a = some (.tup zs) → H7 a = some (.tup zs) := fun {a zs} h => b7 _ _ (ne_of h f6 (fun z => by cases z)) h
        have B7 : But F H3 H7 := b6.trans b7
        have S07 : Same H H7 := but_same hF0 S03 B7
        have i7 : ItAt H7 x.1 x.2 := (hx3 x xu).tk fun a zs h => tF7 h
        have D7 := hD.same S07
        obtain ⟨bx16, nn⟩ := iv.its _ _ _ xm
        have b16 : x.2.box < 16 := by have := iv.wf.am16; omega
        have l40 : x.2.ns.length ≤ 40 := by have := iv.nlen xm; omega
        have nx : ∀ n ∈ x.2.ns, n < xs.length := fun n hn => by rw [xl]; exact (iv.nlt xm hn).1
        obtain ⟨dok, dap⟩ := gh.dd _ _ _ xm
        obtain ⟨ln1, ln2⟩ := gh.ln _ _ _ xm
        have kx := kA_ok (hh := hh) (gh.bx _ _ _ xm) ln1 nx
        have kd : ∀ v, x.2.d.ap v = (kA xs x.2.ns).foldl (fun v x => x.d.ap v) v := fun v => by rw [dap, kA_fold]
        try walk_at "go"
        intro H8 S8
        refine ⟨_, rfl, ifF rfl ?_⟩
        obtain ⟨da, na, j1, j2, j3⟩ := i7
        have j18 := S8 _ _ j1
        have j38 := S8 _ _ j3
        have f8 := S8 _ _ f7
        have st1 : (us.take (j + 1)).flatMap (fun x => x.2.ns) = (us.take j).flatMap (fun x => x.2.ns) ++ x.2.ns := by rw [take_snoc hx, List.flatMap_append, List.flatMap_cons, List.flatMap_nil, List.append_nil]
        have st2 : (us.take (j + 1)).flatMap (fun x => x.2.ns.tail) = (us.take j).flatMap (fun x => x.2.ns.tail) ++ x.2.ns.tail := by rw [take_snoc hx, List.flatMap_append, List.flatMap_cons, List.flatMap_nil, List.append_nil]
        have ll : st.ord.length + ((fi Itm.ns i).length + (((us.take j).flatMap fun x => x.2.ns).length + x.2.ns.length)) ≤ 40 := by
          have a := fle (i + 1)
          rw [fstep Itm.ns i p hp, ← us2, List.flatMap_map, ← List.take_append_drop (j + 1) us, List.flatMap_append, st1] at a
          simp only [List.length_append] at a
          omega
        have l1 : ((st.ord ++ (fi Itm.ns i ++ (us.take j).flatMap fun x => x.2.ns)).map fun n => V.int (n : Nat)).length + (x.2.ns.map fun n => V.int (n : Nat)).length ≤ 40 := by
          simp only [List.length_map, List.length_append]
          omega
        have l2 : (x.2.ns.map fun n => V.int (n : Nat)).length = x.2.ns.length := List.length_map _
        have k38 : SqT K H8 na (x.2.ns.map fun n => V.int (n : Nat)) := SqT.of j38
        try walk_at "go"
        generalize e9 : upd H8 F _ = H9
        have b9 : But F H8 H9 := e9 ▸ But.upd
        have f9 : H9 F = some (.lst ((st.ord ++ (fi Itm.ns i ++ (us.take (j + 1)).flatMap fun x => x.2.ns)).map fun n => V.int (n : Nat))) := by
          rw [← e9, upd_same, st1]
          simp only [List.map_append, List.append_assoc]
        have j19 := b9 _ _ (ne_of j18 f8 (fun z => by cases z)) j18
        have j39 := b9 _ _ (ne_of j38 f8 (fun z => by cases z)) j38
        refine ⟨SqT.of j19, at_of (j := 2) rfl rfl, ?_⟩
        have e11 : (fun i j : Int => V.int (i - j)) (((fi (fun it => it.ns.tail) i ++ (us.take j).flatMap fun x => x.2.ns.tail).length : Int) + ((x.2.ns.map fun n => V.int (n : Nat)).length : Int)) 1 = V.int ((fi (fun it => it.ns.tail) i ++ (us.take (j + 1)).flatMap fun x => x.2.ns.tail).length : Nat) := by
          refine congrArg V.int ?_
          rw [st2, l2, ← List.append_assoc, List.length_append (bs := x.2.ns.tail), List.length_tail]
          have : 1 ≤ x.2.ns.length := List.length_pos_iff.mpr nn
          omega
        try walk_at "go"
        rw [e11]
        exact ⟨⟨_, _, _, _, rfl, b7.trans ((same_but S8).trans b9), f9⟩⟩
      · rintro σ H7 ⟨v10, v11, v12, v13, rfl, b7, f7⟩
        rw [List.length_map, List.take_length] at f7 ⊢
        have et : ∀ G : Itm → List Nat, fi G i ++ (us.flatMap fun x => G x.2) = fi G (i + 1) := fun G => by
          rw [fstep G i p hp, ← us2, List.flatMap_map]
        refine ⟨_, _, _, _, _, _, _, by rw [et fun it => it.ns.tail], b6.trans b7, by rw [f7, et Itm.ns]⟩
    rintro σ H4 ⟨v7, v8, v9, v10, v11, v12, v13, rfl, b4, f4⟩
    rw [List.length_map, t3.1] at f4 ⊢
    rw [fall] at f4 ⊢
    have S04 : Same H H4 := but_same hF0 S03 b4
    have N4 := N.same S04
    have me4 := S04 _ _ me
    have dv : CDivW (1 * 2 ^ (st.k : Int).toNat) 2 := ⟨by decide, Nat.lt_trans (log_lt (n := 10) (by decide) (by decide)) (by decide)⟩
    try walk_at "go"
    rw [eN]
    intro E2 us H5 S5 hE2 e5 t5 n5
    have S05 := S04.trans S5
    have pr : st.prs.length ≤ 1000 := by have := iv.num; omega
    have f5 := S5 _ _ f4
    try walk_at "go"
    intro P hP
    obtain ⟨qs, eqs⟩ : ∃ qs, qs = spL 1 st.k (2 ^ st.k / 2) := ⟨_, rfl⟩
    rw [← eqs] at t5
    refine lc_list (K := K) (a := E2) (xs := us.map V.ref) (fun i H' => Same H5 H' ∧ H' P = some (.lst (((qs.take i).map fun q => ((joinsS st q.1 q.2 : Nat) : Int)).map V.int))) ⟨same_new hP _, upd_same⟩ (fun i H' _ h => SqL.of (h.1 _ _ e5)) ?_ ?_
    · rintro i y H6 hi ⟨S6, p6⟩
      rw [List.getElem?_map] at hi
      obtain ⟨t, ht, rfl⟩ := Option.map_eq_some_iff.mp hi
      have hi2 : i < us.length := (List.getElem?_eq_some_iff.mp ht).1
      have hi3 : i < qs.length := by rw [← t5.1]; exact hi2
      have hq := List.getElem?_eq_getElem hi3
      have ot := S6 _ _ (t5.2 i t _ ht hq)
      have qm : qs[i] ∈ spL 1 st.k (2 ^ st.k / 2) := by rw [← eqs]; exact List.getElem_mem hi3
      obtain ⟨q1, q2, q3⟩ := spL_mem.mp qm
      generalize qs[i] = p at hq ot q1 q2 q3
      have N6 := N.same (S05.trans S6)
      have me6 := (S05.trans S6) _ _ me
      have ll : (((qs.take i).map fun q => ((joinsS st q.1 q.2 : Nat) : Int)).map V.int).length ≤ 80 := by rw [List.length_map, List.length_map, List.length_take]; omega
      try walk_at "go"
      intro H7 S7
      have p7 := S7 _ _ p6
      try walk_at "go"
      exact ⟨but_same hP (S6.trans S7) But.upd, by rw [upd_same, take_snoc hq, List.map_append, List.map_append] <;> rfl⟩
    rintro H6 ⟨S6, p6⟩
    rw [List.length_map, t5.1, List.take_length] at p6
    have f6 := S6 _ _ f5
    have pl80 : ((qs.map fun q => ((joinsS st q.1 q.2 : Nat) : Int)).map V.int).length ≤ 80 := by rw [List.length_map, List.length_map, ← t5.1]; exact n5
    try walk_at "go"
    intro Z hZ
    generalize eH7 : upd _ Z _ = H7
    have SH7 := newS eH7 hZ
    have oZ := newO eH7
    have p7 := SH7 _ _ p6
    have f7 := SH7 _ _ f6
    try walk_at "go"
    intro Y hY
    generalize eH8 : upd _ Y _ = H8
    have SH8 := newS eH8 hY
    have oY := newO eH8
    have p8 := SH8 _ _ p7
    have f8 := SH8 _ _ f7
    have oY : H8 Y = some (.lst ((qs.map (fun q : Nat × Nat => ((joinsS st q.1 q.2 : Nat) : Int)) ++ [0]).map V.int)) := by rw [oY, List.map_append] <;> rfl
    have l0 : 0 < (qs.map (fun q : Nat × Nat => ((joinsS st q.1 q.2 : Nat) : Int)) ++ [0]).length := by rw [List.length_append, List.length_singleton]; omega
    try walk_at "go"
    intro mx hm _
    have hmk : mx ≤ (st.kept : Nat) := by
      rcases List.mem_append.mp hm with w | w
      · obtain ⟨q, _, rfl⟩ := List.mem_map.mp w
        have := gh.kp q.1 q.2
        omega
      · rw [List.mem_singleton.mp w]; omega
    try walk_at "go"
    refine ifF (decide_eq_false (by omega)) ?_
    try walk_at "go"
    have es : (qs.map fun q => ((joinsS st q.1 q.2 : Nat) : Int)).sum = ((sumL (fun q => joinsS st q.1 q.2) qs : Nat) : Int) := sum_L _ qs
    have gs := gh.sums
    have gm := gh.more
    rw [← eqs] at gs
    rw [es]
    refine ifF (decide_eq_false (by omega)) ?_
    have f9 : H8 F = some (.lst (((st.ord ++ onAll Itm.ns st).map fun n => ((n : Nat) : Int)).map V.int)) := by rw [f8, List.map_map] <;> rfl
    have S08 : Same H H8 := S05.trans (S6.trans (SH7.trans SH8))
    have hD8 := (hD.same S08).1
    try walk_at "go"
    intro ns' R pm sr hR
    have oR := upd_same (H := H8) (a := R) (o := .lst (ns'.map V.int))
    have SR := same_new hR (.lst (ns'.map V.int))
    generalize upd H8 R (.lst (ns'.map V.int)) = H9 at oR SR
    have en : ns' = (List.range st.asked.length).map fun n => ((n : Nat) : Int) := by
      refine List.Perm.eq_of_pairwise (le := fun a b => a ≤ b) (fun a b _ _ h1 h2 => Int.le_antisymm h1 h2) sr ?_ (pm.trans (iv.found.map _))
      exact List.pairwise_map.mpr (List.pairwise_lt_range.imp fun h => by omega)
    subst en
    have hD9 := SR _ _ hD8
    have xl2 : (xs.map fun x => V.ref x.a).length = st.asked.length := by rw [List.length_map, xl]
    try walk_at "go"
    rw [xl2]
    intro W hW
    generalize eH10 : upd _ W _ = H10
    have SH10 := newS eH10 hW
    have oW := newO eH10
    have oW : H10 W = some (.lst (((List.range st.asked.length).map fun n => ((n : Nat) : Int)).map V.int)) := by rw [oW, rg_nat]
    refine ⟨_, _, .lst (SqL.of (SH10 _ _ oR)) (ints_dp _), .lst (SqL.of oW) (ints_dp _), Ly.lstI.sh, Ly.lstI.sh, ?_⟩
    rw [Ly.lstI.refl]
    exact q H10 (S08.trans (SR.trans SH10))
/-! SPLIT -/
/-! DEV -/
/-! ### k55, the law -/
structure Rd5 (C : Addr) (H0 H : Hp) (pot D L : Addr) (ss : List Nat) (k m : Nat) (ad : Nm → Addr) (st : NS) (xs ys : List Ak) : Prop where
  r : Rdy C H0 H pot D ss k m ad st
  la : LaAt H L ys
  l0 : H0 L = none
  lp : L ≠ pot
  ln : ∀ n, n.ok st.k → ad n ≠ L
  lD : L ≠ D
  gh : Gh st (asN xs)
  hd : ∀ x ∈ xs, 0 ≤ x.hand
section
variable {C pot D L : Addr} {H0 H H' : Hp} {ss : List Nat} {k m : Nat} {ad : Nm → Addr} {st : NS} {xs ys : List Ak}
omit B in
theorem LaAt.keep {a : Addr} {zs : List Ak} (h : LaAt H a zs) (e : TK H H') (ea : ∀ o, H a = some o → H' a = some o) : LaAt H' a zs := ⟨ea _ h.1, fun x hx => by
  obtain ⟨p, q, r⟩ := h.2 x hx
  exact ⟨e _ _ p, e _ _ q, r⟩⟩
omit B in
theorem Rd5.draw (r : Rd5 C H0 H pot D L ss k m ad st xs ys) (b : But pot H H') (p : PotAt H' pot) : Rd5 C H0 H' pot D L ss k m ad st xs ys :=
  ⟨r.r.draw b p, r.la.keep (pot_keep b r.r.ww.po) fun o h => b _ _ r.lp h, r.l0, r.lp, r.ln, r.lD, r.gh, r.hd⟩
omit B in
theorem Rd5.same (r : Rd5 C H0 H pot D L ss k m ad st xs ys) (S : Same H H') : Rd5 C H0 H' pot D L ss k m ad st xs ys :=
  ⟨r.r.same S, r.la.same S, r.l0, r.lp, r.ln, r.lD, r.gh, r.hd⟩
omit B in
theorem Rd5.app (r : Rd5 C H0 H pot D L ss k m ad st xs ys) {x : Ak} (b : But L H H') (o : H' L = some (.lst ((ys ++ [x]).map fun x => V.ref x.a))) (hx : H x.a = some (.tup x.vs) ∧ H x.da = some (.tup x.d.vs) ∧ x.d.Ok) : Rd5 C H0 H' pot D L ss k m ad st xs (ys ++ [x]) := by
  have tk : TK H H' := fun t zs z => b _ _ (ne_of z r.la.1 (fun z => by cases z)) z
  obtain ⟨u, v, h1, h2⟩ := r.r.ww.po
  have w := r.r.ww
  refine ⟨⟨⟨but_same r.l0 w.same b, w.p0, w.n0, ⟨u, v, b _ _ (Ne.symm r.lp) h1, h2⟩, ⟨w.net.inj, fun n hn => (w.net.at_ n hn).keep tk fun o h => b _ _ (r.ln n hn) h⟩, w.np, fun y hy => ?_⟩, r.r.iv, r.r.hk, r.r.am⟩, ⟨o, fun y hy => ?_⟩, r.l0, r.lp, r.ln, r.lD, r.gh, r.hd⟩
  · obtain ⟨g1, g2, g3⟩ := w.ps_ y hy
    refine ⟨b _ _ ?_ g1, g2, g3⟩
    rw [List.mem_singleton.mp hy]
    exact Ne.symm r.lD
  · rcases List.mem_append.mp hy with g | g
    · obtain ⟨p, q, s⟩ := r.la.2 y g
      exact ⟨tk _ _ p, tk _ _ q, s⟩
    · rw [List.mem_singleton.mp g]
      exact ⟨tk _ _ hx.1, tk _ _ hx.2.1, hx.2.2⟩
omit B in
theorem Rd5.put {x : Ak} (r : Rd5 C H0 H pot D L ss k m ad st xs (xs ++ [x])) {h : Nat} (f : Fr st.k ad ad H H') (N : NetAt C H' ad (putS st h x.box x.d)) (hn : st.asked.length < 40) (eh : x.hand = (h : Nat)) (hh : h < 2 ^ st.k) (hb : x.box < st.am.length) (hd : x.d.Ok) : Rd5 C H0 H' pot D L ss k m ad (putS st h x.box x.d) (xs ++ [x]) (xs ++ [x]) := by
  have tk := f.tk r.r.ww.net
  refine ⟨r.r.put f N hn hh hb hd, r.la.keep tk fun o h => f.keep _ _ h r.ln, r.l0, r.lp, r.ln, r.lD, ?_, fun y hy => ?_⟩
  · have g := Gh.put (b := x.box) r.r.iv r.gh hh hd
    have e : asN (xs ++ [x]) = asN xs ++ [(h, x.box, x.d)] := by
      unfold asN
      rw [List.map_append, List.map_cons, List.map_nil, eh, Int.toNat_natCast]
    rw [e]
    exact g
  · rcases List.mem_append.mp hy with w | w
    · exact r.hd y w
    · rw [List.mem_singleton.mp w, eh]; omega
omit B in
theorem Rd5.beat (r : Rd5 C H0 H pot D L ss k m ad st xs ys) {ad' : Nm → Addr} {ls : List (Nat × Nat)} (f : Fr st.k ad ad' H H') (N : NetAt C H' ad' (goS st ls)) : Rd5 C H0 H' pot D L ss k m ad' (goS st ls) xs ys := by
  have tk := f.tk r.r.ww.net
  refine ⟨r.r.beat f N, r.la.keep tk fun o h => f.keep _ _ h r.ln, r.l0, r.lp, fun n hn z => ?_, r.lD, Gh.go r.r.iv r.gh ls, r.hd⟩
  rw [goS_k] at hn
  rcases f.own n hn with ⟨l, hl, e⟩ | e
  · exact r.ln l hl (e.trans z)
  · rw [z, r.la.1] at e; cases e
end
def spLaw (K : PySem.W.Frag) : Sp := fun vs H Q _ => ∃ (a : Addr) (ns : List Int), vs = [.ref a] ∧ SqL K H a (ns.map V.int) ∧ ns.length ≤ 63 ∧ ∀ H', Q (.bl true) H'
theorem k_law {f : Addr} {fd : FuncData} (F : Fun K "law" "law" s_law f fd) (D__law_pot : Dn P w K mg base 1 "_law_pot" ["_law_script", "_law_k"] (spPotL K)) (D__law_take : Dn P w K mg base 1 "_law_take" ["_law_pot_here", "_law_many"] spTakeL) (D__law_number : Dn P w K mg base 2 "_law_number" ["_law_pot_here"] spNumL) (D__law_ask : Dn P w K mg base 4 "_law_ask" ["_law_pot_here", "_law_k", "_law_many", "_law_some"] (spAskL K)) (D__law_lost : Dn P w K mg base 4 "_law_lost" ["_law_pot_here", "_law_k"] (spLostL K)) (D_Net____init__ : DnI P w K mg base (cAt mg "Net") 7 ["self", "k", "board", "room", "kept"] (spNetIn K (cAt mg "Net"))) (D_Net__put : DnM P w K mg base (cAt mg "Net") 6 "put" ["self", "ask"] (spPutN K (cAt mg "Net"))) (D_Net__beat : DnMd P w K mg base (cAt mg "Net") 18 "beat" ["self", "lost"] [.non] (spBeat K (cAt mg "Net"))) (D_Net__beat_all : DnMd P w K mg base (cAt mg "Net") 18 "beat" ["self", "lost"] [] (spBeat K (cAt mg "Net"))) (D__law_bounds : Dn P w K mg base 15 "_law_bounds" ["_law_net", "_law_k", "_law_room", "_law_kept", "_law_asks"] (spBounds K (cAt mg "Net"))) : FnG P w K mg base CX0 20 f fd ["_law_script"] (spLaw K) := by
  refine okG0 F sc_law (fun vs H Q E h => ?_) (fun cdv A outer s H vs Q E hr h => ⟨_, (pss_cons (ps_for PassesOwn.never rfl (pi_range1 (by rfl) B.range_ (pa_cons (pe_callB (call_max2 rfl) (by rfl) B.max_ (by decide +kernel) (pa_cons pe_int (pa_cons (pe_callB (call_min2 rfl) (by rfl) B.min_ (by decide +kernel) (pa_cons pe_int (pa_cons (pe_callB (lenK (K := K)) (by rfl) B.len_ (by decide +kernel) (pa_cons (pv 0) pa_nil)) pa_nil))) pa_nil))) pa_nil)) (pg_name (i := 1) sc_law.nd rfl (Or.inl rfl))
      (pss_cons (ps_set (i := 2) sc_law.nd rfl (Or.inr rfl) (pe_cD D__law_pot (hr.less (by decide)) rfl (pa_cons (pv 0) (pa_cons (pv 1) pa_nil))))
      (pss_cons (ps_asg (pe_tup (pa_cons (pe_cD D__law_take (hr.less (by decide)) rfl (pa_cons (pv 2) (pa_cons pe_int pa_nil))) (pa_cons (pe_op op_add pe_int (pe_cD D__law_take (hr.less (by decide)) rfl (pa_cons (pv 2) (pa_cons pe_int pa_nil)))) (pa_cons (pe_op op_add pe_int (pe_cD D__law_take (hr.less (by decide)) rfl (pa_cons (pv 2) (pa_cons pe_int pa_nil)))) pa_nil)))) (kk (K := K) (F := fun K => gTup K 3 _) (P := PG _ _) (pg_tup rfl (pgs_cons (pg_name (i := 3) sc_law.nd rfl (Or.inl rfl)) (pgs_cons (pg_name (i := 4) sc_law.nd rfl (Or.inl rfl)) (pgs_cons (pg_name (i := 5) sc_law.nd rfl (Or.inr rfl)) pgs_nil))))))
      (pss_cons (ps_set (i := 6) sc_law.nd rfl (Or.inl rfl) (pe_ix (kk (K := K) (F := rIxL) (P := IxR _) ix_list) (pe_lst (pa_cons pe_int (pa_cons pe_int (pa_cons pe_int (pa_cons (pe_op op_add pe_int (pe_cD D__law_take (hr.less (by decide)) rfl (pa_cons (pv 2) (pa_cons pe_int pa_nil)))) pa_nil))))) (pe_cD D__law_take (hr.less (by decide)) rfl (pa_cons (pv 2) (pa_cons pe_int pa_nil))) (fun _ _ => rfl)))
      (pss_cons (ps_set (i := 7) sc_law.nd rfl (Or.inl rfl) (pe_ix (kk (K := K) (F := rIxL) (P := IxR _) ix_list) (pe_lst (pa_cons pe_int (pa_cons pe_int (pa_cons pe_int (pa_cons (pe_cD D__law_take (hr.less (by decide)) rfl (pa_cons (pv 2) (pa_cons pe_int pa_nil))) pa_nil))))) (pe_cD D__law_take (hr.less (by decide)) rfl (pa_cons (pv 2) (pa_cons pe_int pa_nil))) (fun _ _ => rfl)))
      (pss_cons (ps_setLc (i := 9) (own := [("_law_turn", 8)]) (g := gName 8) (tt := tYes) rfl sc_law.nd rfl rfl (sw_true rfl rfl rfl (by decide +kernel)) (pi_range1 (by rfl) B.range_ (pa_cons (pe_op op_add pe_int (pe_cD D__law_take (hr.less (by decide)) rfl (pa_cons (pv 2) (pa_cons pe_int pa_nil)))) pa_nil)) (blkOk_by (own := [("_law_turn", 8)]) (N := ["_law_script", "_law_j", "_law_pot_here", "_law_k", "_law_turns", "_law_many", "_law_room", "_law_kept", "_law_turn", "_law_some", "_law_net", "_law_asks", "_law_lost_here", "_law_ask_here", "_law_box"]) (sc := defScope s_law) (by decide +kernel)) (fun _ _ _ _ _ => (pg_name (i := 8) sc_law.nd rfl (Or.inl rfl))) (fun _ _ _ _ _ => pts_nil) (fun _ _ _ _ _ => (pe_cD D__law_take (hr.less (by decide)) rfl (pa_cons (pv 2) (pa_cons (pv 5) pa_nil)))))
      (pss_cons (ps_set (i := 10) sc_law.nd rfl (Or.inl rfl) (pe_mkG D_Net____init__ (hr.less (by decide)) rfl B.Net_.mg_ (pa_cons (pv 3) (pa_cons (pe_callTy (tupOfK (K := K)) (by rfl) B.tuple_ (by decide +kernel) (pa_cons (pe_lc (own := [("_law_box", 14)]) (g := gName 14) (tt := tYes) rfl sc_law.nd (pi_range1 (by rfl) B.range_ (pa_cons (pv 5) pa_nil)) (blkOk_by (own := [("_law_box", 14)]) (N := ["_law_script", "_law_j", "_law_pot_here", "_law_k", "_law_turns", "_law_many", "_law_room", "_law_kept", "_law_turn", "_law_some", "_law_net", "_law_asks", "_law_lost_here", "_law_ask_here", "_law_box"]) (sc := defScope s_law) (by decide +kernel)) (fun _ _ _ _ _ => (pg_name (i := 14) sc_law.nd rfl (Or.inl rfl))) (fun _ _ _ _ _ => pts_nil) (fun _ _ _ _ _ => (pe_cD D__law_number (hr.less (by decide)) rfl (pa_cons (pv 2) pa_nil)))) pa_nil)) (pa_cons (pv 6) (pa_cons (pv 7) pa_nil))))))
      (pss_cons (ps_set (i := 11) sc_law.nd rfl (Or.inl rfl) (pe_lst pa_nil))
      (pss_one (ps_for PassesOwn.never rfl (pi_range1 (by rfl) B.range_ (pa_cons (pe_op op_add (pv 4) pe_int) pa_nil)) (pg_name (i := 8) sc_law.nd rfl (Or.inl rfl))
       (pss_cons (ps_set (i := 12) sc_law.nd rfl (Or.inl rfl) (pe_tup pa_nil))
       (pss_cons (ps_for PassesOwn.never rfl (pi_range1 (by rfl) B.range_ (pa_cons (pe_op op_mulX (pe_callB (call_min2 rfl) (by rfl) B.min_ (by decide +kernel) (pa_cons (pe_cD D__law_take (hr.less (by decide)) rfl (pa_cons (pv 2) (pa_cons pe_int pa_nil))) (pa_cons (pe_op op_sub pe_int (pe_callB (lenK (K := K)) (by rfl) B.len_ (by decide +kernel) (pa_cons (pv 11) pa_nil))) pa_nil))) (pe_callTy call_int1 (by rfl) B.int_ (by decide +kernel) (pa_cons (pe_cmpR op_lt (pv 8) (pv 4) (nomark _)) pa_nil))) pa_nil)) (pg_name (i := 13) sc_law.nd rfl (Or.inl rfl))
         (pss_cons (ps_expr (kk (K := K) (F := fun K => tBM K "list" _ _ _) (P := PE _ _) (pe_bm PySem.F.plainAttrs_list PySem.F.slot_list_append PySem.F.type_list_append mt_append (pv 11) (pa_cons (pe_cD D__law_ask (hr.less (by decide)) rfl (pa_cons (pv 2) (pa_cons (pv 3) (pa_cons (pv 5) (pa_cons (pv 9) pa_nil))))) pa_nil))))
         (pss_one (ps_expr (pe_mG D_Net__put B.Net_.cl (hr.less (by decide)) (pv 10) (pa_cons (pe_ix (kk (K := K) (F := rIxL) (P := IxR _) ix_list) (pv 11) (pe_un un_neg pe_int) (fun _ _ => rfl)) pa_nil))))))
       (C8.pss_cut (ps_if (pt_cmpR op_lt (pv 8) (pv 4) (nomark _))
         (pss_one (ps_set (i := 12) sc_law.nd rfl (Or.inl rfl) (pe_cD D__law_lost (hr.less (by decide)) rfl (pa_cons (pv 2) (pa_cons (pv 3) pa_nil)))))
         pss_nil)
       (pss_cons (ps_expr (pe_mGd D_Net__beat_all B.Net_.cl (hr.less (by decide)) (pv 10) (pa_cons (pv 12) pa_nil)))
       (pss_one (ps_if (pt_not (pt_val (pe_cD D__law_bounds (hr.less (by decide)) rfl (pa_cons (pv 10) (pa_cons (pv 3) (pa_cons (pv 6) (pa_cons (pv 7) (pa_cons (pv 11) pa_nil))))))))
        (pss_one (ps_ret pe_bl))
        pss_nil))))))))))))))))
    (pss_one (ps_ret pe_bl))), ?_⟩)
  · obtain ⟨a, ns, rfl, _⟩ := h; rfl
  · obtain ⟨a, ns, rfl, hs, hn, q⟩ := h
    obtain ⟨cl0, n1, n2, n3, n4, n5, n6, n7, n8, n9, n10, n11⟩ := netNo B
    try walk_at "go"
    have hN : (if (if (((ns.map V.int).length : Nat) : Int) < 3 then (((ns.map V.int).length : Nat) : Int) else 3) > 1 then (if (((ns.map V.int).length : Nat) : Int) < 3 then (((ns.map V.int).length : Nat) : Int) else 3) else 1).toNat ≤ 3 := by split <;> split <;> omega
    generalize (if (if (((ns.map V.int).length : Nat) : Int) < 3 then (((ns.map V.int).length : Nat) : Int) else 3) > 1 then (if (((ns.map V.int).length : Nat) : Int) < 3 then (((ns.map V.int).length : Nat) : Int) else 3) else 1).toNat = n at hN ⊢
    refine for_range (lo := 0) (n := n) (fun i σ H2 => Kept (∃ v1 v2 v3 v4 v5 v6 v7 v8 v9 v10 v11 v12 v13 v14 : Option V, σ = [some (.ref a), v1, v2, v3, v4, v5, v6, v7, v8, v9, v10, v11, v12, v13, v14] ∧ Same H H2)) ⟨_, _, _, _, _, _, _, _, _, _, _, _, _, _, rfl, Same.refl H⟩ ?_ ?_
    · rintro i σ H1 hi ⟨v1, v2, v3, v4, v5, v6, v7, v8, v9, v10, v11, v12, v13, v14, rfl, S1⟩
      have hs1 := S1.seq hs
      have i60 : i ≤ 60 := by omega
      rw [show (0 : Int) + (i : Nat) = (i : Nat) by omega]
      try walk_at "go"
      intro p H2 hpn S2 p2
      have hpH : H p = none := none_bk S1 hpn
      have S02 := S1.trans S2
      try walk_at "go"
      intro k H3 k5 b3 p3
      try walk_at "go"
      intro tu H4 t8 b4 p4
      try walk_at "go"
      intro mm H5 m16 b5 p5
      have S05 : Same H H5 := but_same hpH S02 ((b3.trans b4).trans b5)
      have em : (fun i j : Int => V.int (i + j)) 1 (mm : Int) = V.int ((1 + mm : Nat) : Int) := congrArg V.int (by omega)
      have et : (fun i j : Int => V.int (i + j)) 1 (tu : Int) = V.int ((1 + tu : Nat) : Int) := congrArg V.int (by omega)
      try walk_at "go"
      rw [em, et]
      obtain ⟨m, e_m, m1, m16⟩ : ∃ m, m = 1 + mm ∧ 1 ≤ m ∧ m ≤ 16 := ⟨_, rfl, by omega, by omega⟩
      rw [← e_m]
      obtain ⟨tn, e_t, t9⟩ : ∃ tn, tn = 1 + tu ∧ tn ≤ 16 := ⟨_, rfl, by omega⟩
      rw [← e_t]
      intro T hT
      generalize eH6 : upd _ T _ = H6
      have SH6 := newS eH6 hT
      have oT := newO eH6
      have S06 := S05.trans SH6
      have p6 := p5.same SH6
      try walk_at "go"
      intro r6 H61 hr6 b61 p61
      have S61 : Same H H61 := but_same hpH S06 b61
      try walk_at "go"
      intro M1 hM1
      generalize eH62 : upd _ M1 _ = H62
      have SH62 := newS eH62 hM1
      have oM1 := newO eH62
      have p62 := p61.same SH62
      have nM1 : M1 ≠ p := pot_ne p61 hM1
      try walk_at "go"
      intro r4 H63 hr4 b63 p63
      have S63 : Same H H63 := but_same hpH (S61.trans SH62) b63
      have oM13 := b63 _ _ nM1 oM1
      obtain ⟨ro, hro, ro1, ro2⟩ : ∃ z : Nat, atI [V.int 1, V.int 1, V.int 2, V.int (1 + (r6 : Int))] ((r4 : Nat) : Int) = some (.int (z : Nat)) ∧ 1 ≤ z ∧ z ≤ 6 := by
        rcases (show r4 = 0 ∨ r4 = 1 ∨ r4 = 2 ∨ r4 = 3 by omega) with rfl | rfl | rfl | rfl
        · exact ⟨1, rfl, by decide, by decide⟩
        · exact ⟨1, rfl, by decide, by decide⟩
        · exact ⟨2, rfl, by decide, by decide⟩
        · exact ⟨1 + r6, congrArg some (congrArg V.int (by push_cast; rfl)), by omega, by omega⟩
      try walk_at "go"
      intro c7 H64 hc7 b64 p64
      have S64 : Same H H64 := but_same hpH S63 b64
      try walk_at "go"
      intro M2 hM2
      generalize eH65 : upd _ M2 _ = H65
      have SH65 := newS eH65 hM2
      have oM2 := newO eH65
      have p65 := p64.same SH65
      have nM2 : M2 ≠ p := pot_ne p64 hM2
      try walk_at "go"
      intro c4 H66 hc4 b66 p66
      have S66 : Same H H66 := but_same hpH (S64.trans SH65) b66
      have oM26 := b66 _ _ nM2 oM2
      obtain ⟨kp, hkp, kp7⟩ : ∃ z : Nat, atI [V.int 0, V.int 1, V.int 1, V.int (c7 : Nat)] ((c4 : Nat) : Int) = some (.int (z : Nat)) ∧ z ≤ 6 := by
        rcases (show c4 = 0 ∨ c4 = 1 ∨ c4 = 2 ∨ c4 = 3 by omega) with rfl | rfl | rfl | rfl
        · exact ⟨0, rfl, by decide⟩
        · exact ⟨1, rfl, by decide⟩
        · exact ⟨1, rfl, by decide⟩
        · exact ⟨c7, rfl, by omega⟩
      try walk_at "go"
      intro e H7 e3 b7 p7
      have S07 : Same H H7 := but_same hpH S66 b7
      try walk_at "go"
      rw [show ((1 : Int) + (e : Int)).toNat = 1 + e by omega]
      intro D hD
      have hDH : H D = none := none_bk S07 hD
      have nD : D ≠ p := pot_ne p7 hD
      refine lc_range (lo := 0) (n := 1 + e) (fun j H' => Same H H' ∧ PotAt H' p ∧ ∃ ss : List Nat, H' D = some (.lst (ss.map fun n => V.int (n : Nat))) ∧ ss.length = j ∧ ∀ s ∈ ss, s < m) ⟨S07.trans (same_new hD _), p7.same (same_new hD _), [], upd_same, rfl, fun s hs => absurd hs List.not_mem_nil⟩ ?_ ?_
      · rintro j H8 hj ⟨S8, p8, ss, d8, l8, s8⟩
        have ll : (ss.map fun n => V.int (n : Nat)).length ≤ 3 := by rw [List.length_map]; omega
        try walk_at "go"
        intro g H9 g9 b9 p9
        have d9 := b9 _ _ nD d8
        try walk_at "go"
        refine ⟨but_same hDH (but_same hpH S8 b9) But.upd, ?_, ss ++ [g], by rw [upd_same, List.map_append] <;> rfl, by rw [List.length_append, l8] <;> rfl, fun s hs => ?_⟩
        · obtain ⟨a, b, h1, h2⟩ := p9
          exact ⟨a, b, by rw [upd_ne (Ne.symm nD)]; exact h1, h2⟩
        · rcases List.mem_append.mp hs with w | w
          · exact s8 s w
          · rw [List.mem_singleton.mp w]; omega
      rintro H8 ⟨S8, p8, ss, d8, l8, s8⟩
      try walk_at "go"
      rw [Int.toNat_natCast]
      intro E hE
      have hEH : H E = none := none_bk S8 hE
      have nE : E ≠ p := pot_ne p8 hE
      have nDE : D ≠ E := fun z => by rw [z, hE] at d8; cases d8
      refine lc_range (lo := 0) (n := m) (fun j H' => Same H H' ∧ PotAt H' p ∧ H' D = some (.lst (ss.map fun n => V.int (n : Nat))) ∧ ∃ bs : List Int, H' E = some (.lst (bs.map V.int)) ∧ bs.length = j) ⟨S8.trans (same_new hE _), p8.same (same_new hE _), same_new hE _ _ _ d8, [], upd_same, rfl⟩ ?_ ?_
      · rintro j H9 hj ⟨S9, p9, d9, bs, e9, l9⟩
        have ll : (bs.map V.int).length ≤ 16 := by rw [List.length_map]; omega
        try walk_at "go"
        intro x H10 x0 x1 b10 p10
        have e10 := b10 _ _ nE e9
        have d10 := b10 _ _ nD d9
        try walk_at "go"
        refine ⟨but_same hEH (but_same hpH S9 b10) But.upd, ?_, by rw [upd_ne nDE]; exact d10, bs ++ [x], by rw [upd_same, List.map_append] <;> rfl, by rw [List.length_append, l9] <;> rfl⟩
        obtain ⟨a, b, h1, h2⟩ := p10
        exact ⟨a, b, by rw [upd_ne (Ne.symm nE)]; exact h1, h2⟩
      rintro H9 ⟨S9, p9, d9, bs, e9, l9⟩
      try walk_at "go"
      intro U hU
      generalize eH10 : upd _ U _ = H10
      have SH10 := newS eH10 hU
      have oU := newO eH10
      have S10 := S9.trans SH10
      have p12 := p9.same SH10
      have d12 := SH10 _ _ d9
      have u12 := oU
      have S12 := S10
      try walk_at "go"
      intro x dx hx hdx nx
      have G1 := same_new hdx (.own x)
      have hx3 : upd H10 dx (.own x) x = none := by rw [upd_ne (Ne.symm nx)]; exact hx
      have SG := G1.trans (same_new hx3 (.ins (cAt mg "Net") dx []))
      have ox := upd_same (H := upd H10 dx (.own x)) (a := x) (o := .ins (cAt mg "Net") dx [])
      generalize upd (upd H10 dx (.own x)) x (.ins (cAt mg "Net") dx []) = G at SG ox
      refine ⟨x, dx, U, bs, k, ro, kp, rfl, ox, ⟨SG _ _ u12, by omega, by omega⟩, by omega, by omega, by omega, by omega, fun ad H13 me b13 fr N13 => ?_⟩
      have R0 : Rdy (cAt mg "Net") H H13 p D ss k m ad (netS k bs ro kp) := ⟨.make S12 hpH p12 SG hx b13 me fr N13 (fun y hy => by rw [List.mem_singleton.mp hy]; exact ⟨d12, nD⟩), Iv.new (by omega) (by omega) (by omega) ⟨by omega, by omega⟩ (by omega), rfl, l9⟩
      refine ⟨rfl, ?_⟩
      have s1 : 1 ≤ ss.length := by omega
      have s4 : ss.length ≤ 4 := by omega
      have k4 : k ≤ 4 := by omega
      clear p12 d12 u12
      try walk_at "go"
      intro L hL
      generalize eH14 : upd _ L _ = H14
      have SH14 := newS eH14 hL
      have oL := newO eH14
      have R1 := R0.same SH14
      have p14 := R1.ww.po
      have ex : V.ref x = V.ref (ad .me) := congrArg V.ref me.symm
      have lnL : ∀ n, n.ok (netS k bs ro kp).k → ad n ≠ L := fun n hn z => by
        obtain ⟨o, ho, _⟩ := (R0.ww.net.at_ n hn).some
        rw [z, hL] at ho; cases ho
      have R5 : Rd5 (cAt mg "Net") H H14 p D L ss k m ad (netS k bs ro kp) [] [] := ⟨R1, ⟨oL, fun x hx => absurd hx List.not_mem_nil⟩, none_bk R0.ww.same hL, pot_ne R0.ww.po hL, lnL, fun z => (by rw [z, R0.so.1] at hL; cases hL), Gh.new, fun x hx => absurd hx List.not_mem_nil⟩
      try walk_at "go"
      rw [ex, show ((tn : Int) + 12).toNat = tn + 12 by omega]
      refine for_range (lo := 0) (n := tn + 12) (fun j σ H' => Kept (∃ (ad : Nm → Addr) (st : NS) (xs : List Ak) (v8 v12 v13 v14 : Option V), σ = [some (.ref a), some (.int (i : Nat)), some (.ref p), some (.int (k : Nat)), some (.int (tn : Nat)), some (.int (m : Nat)), some (.int (ro : Nat)), some (.int (kp : Nat)), v8, some (.ref D), some (.ref (ad .me)), some (.ref L), v12, v13, v14] ∧ Rd5 (cAt mg "Net") H H' p D L ss k m ad st xs xs ∧ st.room = ro ∧ st.kept = kp ∧ st.now ≤ j ∧ xs.length = st.asked.length)) ⟨ad, netS k bs ro kp, [], _, _, _, _, rfl, R5, rfl, rfl, Nat.le_refl _, rfl⟩ ?_ ?_
      · rintro j σ H15 hj ⟨ad, st, xs, v8, v12, v13, v14, rfl, R15, er, ec, nw15, xl⟩
        rw [show (0 : Int) + (j : Nat) = (j : Nat) by omega]
        try walk_at "go"
        intro Z hZ
        generalize eH16 : upd _ Z _ = H16
        have SH16 := newS eH16 hZ
        have oZ := newO eH16
        have R16 := R15.same SH16
        have p16 := R16.r.ww.po
        try walk_at "go"
        intro q9 H17 hq b17 p17
        have R17 := R16.draw b17 p17
        have oZ17 := pot_keep b17 p16 _ _ oZ
        have la17 := R17.la.1
        have x40 : xs.length ≤ 40 := by rw [xl]; exact R17.r.iv.wf.n40
        have xll : (xs.map fun x => V.ref x.a).length = xs.length := List.length_map _
        try walk_at "go"
        rw [xll]
        obtain ⟨z, ez, zl⟩ : ∃ z : Nat, (if 40 - (xs.length : Int) < (q9 : Int) then 40 - (xs.length : Int) else (q9 : Int)) = (z : Nat) ∧ xs.length + z ≤ 40 := by
          refine ⟨if 40 - xs.length < q9 then 40 - xs.length else q9, ?_, ?_⟩ <;> split <;> (try split) <;> omega
        rw [ez]
        refine .inr ⟨_, rfl, ?_⟩
        obtain ⟨u, eu, hu⟩ : ∃ u : Nat, (if decide ((j : Int) < (tn : Int)) = true then (1 : Int) else 0) = (u : Nat) ∧ u ≤ 1 := by
          split
          · exact ⟨1, rfl, Nat.le_refl _⟩
          · exact ⟨0, rfl, Nat.zero_le _⟩
        rw [eu]
        refine ⟨_, _, rfl, rfl, mulx 10 4 (by omega) (by omega), ?_⟩
        have e2 : (fun i j : Int => V.int (i * j)) (z : Int) (u : Int) = V.int ((z * u : Nat) : Int) := congrArg V.int (by push_cast; rfl)
        rw [e2]
        obtain ⟨z2, ez2, z2l⟩ : ∃ z2, z2 = z * u ∧ xs.length + z2 ≤ 40 := ⟨_, rfl, by rcases (by omega : u = 0 ∨ u = 1) with rfl | rfl <;> omega⟩
        rw [← ez2]
        clear e2 ez eu ez2 xll
        try walk_at "go"
        rw [Int.toNat_natCast]
        obtain ⟨n0, en0⟩ : ∃ n0, n0 = xs.length := ⟨_, rfl⟩
        rw [← en0] at z2l
        refine for_range (lo := 0) (n := z2) (fun l σ H' => Kept (∃ (st : NS) (xs : List Ak) (v13 v14 : Option V), σ = [some (.ref a), some (.int (i : Nat)), some (.ref p), some (.int (k : Nat)), some (.int (tn : Nat)), some (.int (m : Nat)), some (.int (ro : Nat)), some (.int (kp : Nat)), some (.int (j : Nat)), some (.ref D), some (.ref (ad .me)), some (.ref L), some (.ref Z), v13, v14] ∧ Rd5 (cAt mg "Net") H H' p D L ss k m ad st xs xs ∧ st.room = ro ∧ st.kept = kp ∧ st.now ≤ j ∧ xs.length = st.asked.length ∧ xs.length = n0 + l ∧ H' Z = some (.tup []))) ⟨st, xs, _, _, rfl, R17, er, ec, nw15, xl, en0.symm, oZ17⟩ ?_ ?_
        · rintro l σ H18 hl ⟨st, xs, v13, v14, rfl, R18, er, ec, nw18, xl, xn, oZ18⟩
          have p18 := R18.r.ww.po
          obtain ⟨so18, nDp⟩ := R18.r.so
          obtain ⟨dxN, meN⟩ := R18.r.ww.net.top
          have la18 := R18.la.1
          try walk_at "go"
          intro ak h H19 b19 p19 ak19 eh hh
          have R19 := R18.draw b19 p19
          have oZ19 := pot_keep b19 p18 _ _ oZ18
          have la19 := R19.la.1
          have x40 : (xs.map fun x => V.ref x.a).length < 40 := by rw [List.length_map]; omega
          try walk_at "go"
          generalize e20 : upd H19 L _ = H20
          have b20 : But L H19 H20 := e20 ▸ But.upd
          have la20 : H20 L = some (.lst ((xs ++ [ak]).map fun x => V.ref x.a)) := by rw [← e20, upd_same, List.map_append] <;> rfl
          have R20 := R19.app b20 la20 ⟨ak19.1, ak19.2.1.1, ak19.2.1.2.2⟩
          have tk20 : TK H19 H20 := fun t zs z => b20 _ _ (ne_of z la19 (fun z => by cases z)) z
          have ak20 : ak.at_ H20 st.am.length := by
            rw [R20.r.am]
            exact ⟨tk20 _ _ ak19.1, ⟨tk20 _ _ ak19.2.1.1, ak19.2.1.2⟩, ak19.2.2⟩
          have gA1 : atI ((xs ++ [ak]).map fun x => V.ref x.a) (-1) = some (.ref ak.a) := at_neg (i := xs.length) (by rw [List.length_map, List.length_append] <;> rfl) (by rw [List.getElem?_map, List.getElem?_append_right (Nat.le_refl _), Nat.sub_self] <;> rfl)
          have N20 := R20.r.ww.net
          have iv20 := R20.r.iv
          have hh20 : h < 2 ^ st.k := by rw [R20.r.hk]; exact hh
          have n20 : st.asked.length < 40 := by omega
          have me19 := b19 _ _ (R18.r.ww.np .me trivial) meN
          have me20 := b20 _ _ (R18.ln .me trivial) me19
          try walk_at "go"
          intro H21 F21 N21
          have R21 := R20.put F21 N21 n20 eh hh20 ak20.2.2.2.2 ak20.2.1.2.2
          have oZ21 := (F21.tk N20) _ _ (tk20 _ _ oZ19)
          try walk_at "go"
          exact ⟨⟨_, _, _, _, rfl, R21, er, ec, nw18, by show _ = (st.asked ++ [_]).length; rw [List.length_append, List.length_append, xl] <;> rfl, by rw [List.length_append, xn] <;> rfl, oZ21⟩⟩
        rintro σ H18 ⟨st, xs, v13, v14, rfl, R18, er, ec, nw18, xl, xn, oZ18⟩
        have p18 := R18.r.ww.po
        try walk_at "go"
        refine ⟨fun σ H' => Kept (∃ (lo : Addr) (ls : List (Nat × Nat)) (v13 v14 : Option V), σ = [some (.ref a), some (.int (i : Nat)), some (.ref p), some (.int (k : Nat)), some (.int (tn : Nat)), some (.int (m : Nat)), some (.int (ro : Nat)), some (.int (kp : Nat)), some (.int (j : Nat)), some (.ref D), some (.ref (ad .me)), some (.ref L), some (.ref lo), v13, v14] ∧ Rd5 (cAt mg "Net") H H' p D L ss k m ad st xs xs ∧ LsAt H' lo ls ∧ Plcs k ls ∧ ls.length ≤ 20), ?_, ?_⟩
        · try walk_at "go"
          refine ite2 (fun c => ?_) (fun c => ?_)
          · try walk_at "go"
            intro lo ls H19 b19 p19 l19 pl19 n19
            have R19 := R18.draw b19 p19
            try walk_at "go"
            exact ⟨⟨lo, ls, _, _, rfl, R19, l19, pl19, n19⟩⟩
          · try walk_at "go"
            exact ⟨⟨Z, [], _, _, rfl, R18, ⟨[], oZ18, rfl, fun j t p h => by simp at h⟩, fun q hq => absurd hq List.not_mem_nil, Nat.zero_le _⟩⟩
        rintro σ H19 ⟨lo, ls, v13, v14, rfl, R19, l19, pl19, n19⟩
        have N19 := R19.r.ww.net
        have iv19 := R19.r.iv
        have n100 : ls.length ≤ 100 := by omega
        have nw9 : st.now < 10 ^ 9 := by omega
        obtain ⟨dxN, meN⟩ := R19.r.ww.net.top
        try walk_at "go"
        refine ⟨.inr ⟨lo, rfl, l19, by rw [R19.r.hk]; exact pl19⟩, n100, nw9, fun b ad' H20 F20 N20 _ => ?_⟩
        have R20 := R19.beat F20 N20
        obtain ⟨g1, g2, g3, g4, _, _⟩ := goS_keep st ls
        have e8 : V.ref (ad' .me) = V.ref (ad .me) := congrArg V.ref F20.me
        have hkk := R20.r.hk
        have er2 := g2.trans er
        have ec2 := g4.trans ec
        have iv20 := R20.r.iv
        have gh20 := R20.gh
        have hd20 := R20.hd
        have la20 := R20.la
        rw [← e8]
        try walk_at "go"
        intro H21 S21
        refine ⟨_, rfl, ifF rfl ?_⟩
        exact ⟨⟨ad', goS st ls, xs, _, _, _, _, rfl, R20.same S21, er2, ec2, by rw [g3]; omega, by rw [g1, xl]⟩⟩
      rintro σ H15 ⟨ad, st, xs, v8, v12, v13, v14, rfl, R15, er, ec, nw15, xl⟩
      exact ⟨_, _, _, _, _, _, _, _, _, _, _, _, _, _, rfl, R15.r.ww.same⟩
    · rintro σ H1 ⟨v1, v2, v3, v4, v5, v6, v7, v8, v9, v10, v11, v12, v13, v14, rfl, S1⟩
      try walk_at "go"
      exact q H1
end
structure AllD (K : PySem.W.Frag) (mg : Str → Option Value) : Prop where
  d__wall : Df K mg "_wall" s__wall ["k"]
  d_is_whole : Df K mg "is_whole" s_is_whole ["thing"]
  d_is_within : Df K mg "is_within" s_is_within ["thing", "least", "most"]
  d_is_row : Df K mg "is_row" s_is_row ["thing"]
  d_is_row_of : Df K mg "is_row_of" s_is_row_of ["thing", "many"]
  d_want_within : Df K mg "want_within" s_want_within ["thing", "least", "most"]
  d_want_net : Dfd K mg "want_net" s_want_net ["k", "deepest"] [.int 4]
  d_is_end : Df K mg "is_end" s_is_end ["thing"]
  d_is_deed : Df K mg "is_deed" s_is_deed ["thing"]
  d_put_through : Df K mg "put_through" s_put_through ["deed", "value"]
  d_whole_deed : Df K mg "whole_deed" s_whole_deed ["add", "low", "high"]
  d_one_behind : Df K mg "one_behind" s_one_behind ["one", "other"]
  d_is_board : Df K mg "is_board" s_is_board ["thing"]
  d_want_board : Df K mg "want_board" s_want_board ["board"]
  d_is_ask : Df K mg "is_ask" s_is_ask ["board", "thing"]
  d_figure_of : Df K mg "figure_of" s_figure_of ["k", "line", "stage"]
  d_line_of : Df K mg "line_of" s_line_of ["k", "stage", "number", "figure"]
  d_side_of_box : Df K mg "side_of_box" s_side_of_box ["k", "box"]
  d_is_place : Df K mg "is_place" s_is_place ["k", "thing"]
  d__law_pot : Df K mg "_law_pot" s__law_pot ["_law_script", "_law_k"]
  d__law_take : Df K mg "_law_take" s__law_take ["_law_pot_here", "_law_many"]
  d__law_number : Df K mg "_law_number" s__law_number ["_law_pot_here"]
  d__law_deed : Df K mg "_law_deed" s__law_deed ["_law_pot_here"]
  d__law_done : Df K mg "_law_done" s__law_done ["_law_deed_here", "_law_value"]
  d__law_ask : Df K mg "_law_ask" s__law_ask ["_law_pot_here", "_law_k", "_law_many", "_law_some"]
  d__law_lost : Df K mg "_law_lost" s__law_lost ["_law_pot_here", "_law_k"]
  d__law_values : Df K mg "_law_values" s__law_values ["_law_asks"]
  d__law_deed_is : Df K mg "_law_deed_is" s__law_deed_is ["_law_deed_here", "_law_asks"]
  d__law_entry : Df K mg "_law_entry" s__law_entry ["_law_k", "_law_level", "_law_line", "_law_one", "_law_asks"]
  d__law_spots : Df K mg "_law_spots" s__law_spots ["_law_first", "_law_k", "_law_many"]
  d__law_as_put : Df K mg "_law_as_put" s__law_as_put ["_law_row"]
  d__law_bounds : Df K mg "_law_bounds" s__law_bounds ["_law_net", "_law_k", "_law_room", "_law_kept", "_law_asks"]
  d_law : Df K mg "law" s_law ["_law_script"]
  d_Net____init__ : DfI K (cAt mg "Net") "Net.__init__" s_Net____init__ ["self", "k", "board", "room", "kept"]
  d_Net__put : DfM K (cAt mg "Net") "put" "Net.put" s_Net__put ["self", "ask"]
  d_Net__beat : DfMd K (cAt mg "Net") "beat" "Net.beat" s_Net__beat ["self", "lost"] [.non]
  d_Net__log : DfM K (cAt mg "Net") "log" "Net.log" s_Net__log ["self"]
  d_Net__waiting : DfM K (cAt mg "Net") "waiting" "Net.waiting" s_Net__waiting ["self", "level", "line"]
  d_Net__joinings : DfM K (cAt mg "Net") "joinings" "Net.joinings" s_Net__joinings ["self", "stage", "number"]
  d_Net__want_hand : DfM K (cAt mg "Net") "want_hand" "Net.want_hand" s_Net__want_hand ["self", "hand"]
  d_Net__want_lost : DfM K (cAt mg "Net") "want_lost" "Net.want_lost" s_Net__want_lost ["self", "lost"]
  d_Net__go_on : DfM K (cAt mg "Net") "go_on" "Net.go_on" s_Net__go_on ["self", "lost"]
  d_Net__is_forgotten : DfM K (cAt mg "Net") "is_forgotten" "Net.is_forgotten" s_Net__is_forgotten ["self", "pair"]
  d_Net__take : DfM K (cAt mg "Net") "take" "Net.take" s_Net__take ["self", "side"]
  d_Net__hand_on : DfM K (cAt mg "Net") "hand_on" "Net.hand_on" s_Net__hand_on ["self", "stage", "number"]
  d_Net__end : DfM K (cAt mg "Net") "end" "Net.end" s_Net__end ["self", "number"]
  d_Net__does_go : DfM K (cAt mg "Net") "does_go" "Net.does_go" s_Net__does_go ["self", "stage", "number", "one"]
  e_Net__beat : DfMd K (cAt mg "Net") "beat" "Net.beat" s_Net__beat ["self", "lost"] []
  bl : Bl K mg
theorem all_mk {w : World} {K : PySem.W.Frag} {h : Heap} {mg : Str → Option Value} (X : K.In h) (G : h.Ns mainGlobals mg)
    {f1 f2 f3 f4 f5 f6 f7 f8 f9 f10 f11 f12 f13 f14 f15 f16 f17 f18 f19 f20 f21 f22 f23 f24 f25 f26 f27 f28 f29 f30 f31 f32 f33 f34 f35 f36 f37 f38 f39 f40 f41 f42 f43 f44 f45 f46 f47 : Addr} {od1 an1 od2 an2 od3 an3 od4 an4 od5 an5 od6 an6 od7 an7 od8 an8 od9 an9 od10 an10 od11 an11 od12 an12 od13 an13 od14 an14 od15 an15 od16 an16 od17 an17 od18 an18 od19 an19 od20 an20 od21 an21 od22 an22 od23 an23 od24 an24 od25 an25 od26 an26 od27 an27 od28 an28 od29 an29 od30 an30 od31 an31 od32 an32 od33 an33 od34 an34 od35 an35 od36 an36 od37 an37 od38 an38 od39 an39 od40 an40 od41 an41 od42 an42 od43 an43 od44 an44 od45 an45 od46 an46 od47 an47 : Option Addr} {sl1 sl2 sl3 sl4 sl5 sl6 sl7 sl8 sl9 sl10 sl11 sl12 sl13 sl14 sl15 sl16 sl17 sl18 sl19 sl20 sl21 sl22 sl23 sl24 sl25 sl26 sl27 sl28 sl29 sl30 sl31 sl32 sl33 sl34 sl35 sl36 sl37 sl38 sl39 sl40 sl41 sl42 sl43 sl44 sl45 sl46 sl47 : Array (Option Value)} {oc1 kV1 dc1 pm1 cd1 ct1 oc2 kV2 dc2 pm2 cd2 ct2 oc3 kV3 dc3 pm3 cd3 ct3 oc4 kV4 dc4 pm4 cd4 ct4 oc5 kV5 dc5 pm5 cd5 ct5 oc6 kV6 dc6 pm6 cd6 ct6 oc7 kV7 dc7 pm7 cd7 ct7 oc8 kV8 dc8 pm8 cd8 ct8 oc9 kV9 dc9 pm9 cd9 ct9 oc10 kV10 dc10 pm10 cd10 ct10 oc11 kV11 dc11 pm11 cd11 ct11 oc12 kV12 dc12 pm12 cd12 ct12 oc13 kV13 dc13 pm13 cd13 ct13 oc14 kV14 dc14 pm14 cd14 ct14 oc15 kV15 dc15 pm15 cd15 ct15 oc16 kV16 dc16 pm16 cd16 ct16 oc17 kV17 dc17 pm17 cd17 ct17 oc18 kV18 dc18 pm18 cd18 ct18 oc19 kV19 dc19 pm19 cd19 ct19 oc20 kV20 dc20 pm20 cd20 ct20 oc21 kV21 dc21 pm21 cd21 ct21 oc22 kV22 dc22 pm22 cd22 ct22 oc23 kV23 dc23 pm23 cd23 ct23 oc24 kV24 dc24 pm24 cd24 ct24 oc25 kV25 dc25 pm25 cd25 ct25 oc26 kV26 dc26 pm26 cd26 ct26 oc27 kV27 dc27 pm27 cd27 ct27 oc28 kV28 dc28 pm28 cd28 ct28 oc29 kV29 dc29 pm29 cd29 ct29 oc30 kV30 dc30 pm30 cd30 ct30 oc31 kV31 dc31 pm31 cd31 ct31 oc32 kV32 dc32 pm32 cd32 ct32 oc33 kV33 dc33 pm33 cd33 ct33 oc34 kV34 dc34 pm34 cd34 ct34 oc35 kV35 dc35 pm35 cd35 ct35 oc36 kV36 dc36 pm36 cd36 ct36 oc37 kV37 dc37 pm37 cd37 ct37 oc38 kV38 dc38 pm38 cd38 ct38 oc39 kV39 dc39 pm39 cd39 ct39 oc40 kV40 dc40 pm40 cd40 ct40 oc41 kV41 dc41 pm41 cd41 ct41 oc42 kV42 dc42 pm42 cd42 ct42 oc43 kV43 dc43 pm43 cd43 ct43 oc44 kV44 dc44 pm44 cd44 ct44 oc45 kV45 dc45 pm45 cd45 ct45 oc46 kV46 dc46 pm46 cd46 ct46 oc47 kV47 dc47 pm47 cd47 ct47 : Value}
    {da7 da36 : Addr}
    {C0 : Addr} (aC0 : PySem.W.nsIn K mainGlobals "Net" = some (some (.ref C0))) (pg0 : PySem.W.plainGet K C0 Str.empty = true) (hd0 : PySem.W.hasDictIn K C0 = true) (po0 : PySem.W.plainOver K C0 = true) (sa0 : PySem.W.findIn K (.ref C0) "__setattr__" = some (some (.builtin "object.__setattr__"))) (mk0 : PySem.W.makesIn K C0 = true) (kc0 : PySem.W.keepIn K (.ref C0) = true)
    (nf0_0 : PySem.W.findIn K (.ref C0) "amounts" = some none)
    (nf0_1 : PySem.W.findIn K (.ref C0) "answers" = some none)
    (nf0_2 : PySem.W.findIn K (.ref C0) "asked" = some none)
    (nf0_3 : PySem.W.findIn K (.ref C0) "depth" = some none)
    (nf0_4 : PySem.W.findIn K (.ref C0) "ends" = some none)
    (nf0_5 : PySem.W.findIn K (.ref C0) "kept" = some none)
    (nf0_6 : PySem.W.findIn K (.ref C0) "now" = some none)
    (nf0_7 : PySem.W.findIn K (.ref C0) "order" = some none)
    (nf0_8 : PySem.W.findIn K (.ref C0) "pairs" = some none)
    (nf0_9 : PySem.W.findIn K (.ref C0) "room" = some none)
    (nf0_10 : PySem.W.findIn K (.ref C0) "rows" = some none)
    (a1 : PySem.W.nsIn K mainGlobals "_wall" = some (some (.ref f1))) (l1 : K.lookup f1 = some ⟨oc1, od1, .func (PySem.W.fnOf "_wall" "_wall" (defArgs s__wall) (defBody s__wall) (defScope s__wall) .none kV1 dc1 pm1 an1 cd1 ct1), sl1⟩) (c1 : PySem.W.codeIn K cd1 "_wall" = true) (k1 : PySem.W.keepIn K (.ref f1) = true)
    (a2 : PySem.W.nsIn K mainGlobals "is_whole" = some (some (.ref f2))) (l2 : K.lookup f2 = some ⟨oc2, od2, .func (PySem.W.fnOf "is_whole" "is_whole" (defArgs s_is_whole) (defBody s_is_whole) (defScope s_is_whole) .none kV2 dc2 pm2 an2 cd2 ct2), sl2⟩) (c2 : PySem.W.codeIn K cd2 "is_whole" = true) (k2 : PySem.W.keepIn K (.ref f2) = true)
    (a3 : PySem.W.nsIn K mainGlobals "is_within" = some (some (.ref f3))) (l3 : K.lookup f3 = some ⟨oc3, od3, .func (PySem.W.fnOf "is_within" "is_within" (defArgs s_is_within) (defBody s_is_within) (defScope s_is_within) .none kV3 dc3 pm3 an3 cd3 ct3), sl3⟩) (c3 : PySem.W.codeIn K cd3 "is_within" = true) (k3 : PySem.W.keepIn K (.ref f3) = true)
    (a4 : PySem.W.nsIn K mainGlobals "is_row" = some (some (.ref f4))) (l4 : K.lookup f4 = some ⟨oc4, od4, .func (PySem.W.fnOf "is_row" "is_row" (defArgs s_is_row) (defBody s_is_row) (defScope s_is_row) .none kV4 dc4 pm4 an4 cd4 ct4), sl4⟩) (c4 : PySem.W.codeIn K cd4 "is_row" = true) (k4 : PySem.W.keepIn K (.ref f4) = true)
    (a5 : PySem.W.nsIn K mainGlobals "is_row_of" = some (some (.ref f5))) (l5 : K.lookup f5 = some ⟨oc5, od5, .func (PySem.W.fnOf "is_row_of" "is_row_of" (defArgs s_is_row_of) (defBody s_is_row_of) (defScope s_is_row_of) .none kV5 dc5 pm5 an5 cd5 ct5), sl5⟩) (c5 : PySem.W.codeIn K cd5 "is_row_of" = true) (k5 : PySem.W.keepIn K (.ref f5) = true)
    (a6 : PySem.W.nsIn K mainGlobals "want_within" = some (some (.ref f6))) (l6 : K.lookup f6 = some ⟨oc6, od6, .func (PySem.W.fnOf "want_within" "want_within" (defArgs s_want_within) (defBody s_want_within) (defScope s_want_within) .none kV6 dc6 pm6 an6 cd6 ct6), sl6⟩) (c6 : PySem.W.codeIn K cd6 "want_within" = true) (k6 : PySem.W.keepIn K (.ref f6) = true)
    (a7 : PySem.W.nsIn K mainGlobals "want_net" = some (some (.ref f7))) (l7 : K.lookup f7 = some ⟨oc7, od7, .func (PySem.W.fnOf "want_net" "want_net" (defArgs s_want_net) (defBody s_want_net) (defScope s_want_net) (.ref da7) kV7 dc7 pm7 an7 cd7 ct7), sl7⟩) (c7 : PySem.W.codeIn K cd7 "want_net" = true) (k7 : PySem.W.keepIn K (.ref f7) = true)
    {dt7_0 : Tok} {dd7 : Option Addr} {dn7 : Nat} {dz7 : Array (Option Value)} (dl7 : K.lookup da7 = some ⟨.type "tuple", dd7, .seq #[.int 4 dt7_0] dn7, dz7⟩)
    (a8 : PySem.W.nsIn K mainGlobals "is_end" = some (some (.ref f8))) (l8 : K.lookup f8 = some ⟨oc8, od8, .func (PySem.W.fnOf "is_end" "is_end" (defArgs s_is_end) (defBody s_is_end) (defScope s_is_end) .none kV8 dc8 pm8 an8 cd8 ct8), sl8⟩) (c8 : PySem.W.codeIn K cd8 "is_end" = true) (k8 : PySem.W.keepIn K (.ref f8) = true)
    (a9 : PySem.W.nsIn K mainGlobals "is_deed" = some (some (.ref f9))) (l9 : K.lookup f9 = some ⟨oc9, od9, .func (PySem.W.fnOf "is_deed" "is_deed" (defArgs s_is_deed) (defBody s_is_deed) (defScope s_is_deed) .none kV9 dc9 pm9 an9 cd9 ct9), sl9⟩) (c9 : PySem.W.codeIn K cd9 "is_deed" = true) (k9 : PySem.W.keepIn K (.ref f9) = true)
    (a10 : PySem.W.nsIn K mainGlobals "put_through" = some (some (.ref f10))) (l10 : K.lookup f10 = some ⟨oc10, od10, .func (PySem.W.fnOf "put_through" "put_through" (defArgs s_put_through) (defBody s_put_through) (defScope s_put_through) .none kV10 dc10 pm10 an10 cd10 ct10), sl10⟩) (c10 : PySem.W.codeIn K cd10 "put_through" = true) (k10 : PySem.W.keepIn K (.ref f10) = true)
    (a11 : PySem.W.nsIn K mainGlobals "whole_deed" = some (some (.ref f11))) (l11 : K.lookup f11 = some ⟨oc11, od11, .func (PySem.W.fnOf "whole_deed" "whole_deed" (defArgs s_whole_deed) (defBody s_whole_deed) (defScope s_whole_deed) .none kV11 dc11 pm11 an11 cd11 ct11), sl11⟩) (c11 : PySem.W.codeIn K cd11 "whole_deed" = true) (k11 : PySem.W.keepIn K (.ref f11) = true)
    (a12 : PySem.W.nsIn K mainGlobals "one_behind" = some (some (.ref f12))) (l12 : K.lookup f12 = some ⟨oc12, od12, .func (PySem.W.fnOf "one_behind" "one_behind" (defArgs s_one_behind) (defBody s_one_behind) (defScope s_one_behind) .none kV12 dc12 pm12 an12 cd12 ct12), sl12⟩) (c12 : PySem.W.codeIn K cd12 "one_behind" = true) (k12 : PySem.W.keepIn K (.ref f12) = true)
    (a13 : PySem.W.nsIn K mainGlobals "is_board" = some (some (.ref f13))) (l13 : K.lookup f13 = some ⟨oc13, od13, .func (PySem.W.fnOf "is_board" "is_board" (defArgs s_is_board) (defBody s_is_board) (defScope s_is_board) .none kV13 dc13 pm13 an13 cd13 ct13), sl13⟩) (c13 : PySem.W.codeIn K cd13 "is_board" = true) (k13 : PySem.W.keepIn K (.ref f13) = true)
    (a14 : PySem.W.nsIn K mainGlobals "want_board" = some (some (.ref f14))) (l14 : K.lookup f14 = some ⟨oc14, od14, .func (PySem.W.fnOf "want_board" "want_board" (defArgs s_want_board) (defBody s_want_board) (defScope s_want_board) .none kV14 dc14 pm14 an14 cd14 ct14), sl14⟩) (c14 : PySem.W.codeIn K cd14 "want_board" = true) (k14 : PySem.W.keepIn K (.ref f14) = true)
    (a15 : PySem.W.nsIn K mainGlobals "is_ask" = some (some (.ref f15))) (l15 : K.lookup f15 = some ⟨oc15, od15, .func (PySem.W.fnOf "is_ask" "is_ask" (defArgs s_is_ask) (defBody s_is_ask) (defScope s_is_ask) .none kV15 dc15 pm15 an15 cd15 ct15), sl15⟩) (c15 : PySem.W.codeIn K cd15 "is_ask" = true) (k15 : PySem.W.keepIn K (.ref f15) = true)
    (a16 : PySem.W.nsIn K mainGlobals "figure_of" = some (some (.ref f16))) (l16 : K.lookup f16 = some ⟨oc16, od16, .func (PySem.W.fnOf "figure_of" "figure_of" (defArgs s_figure_of) (defBody s_figure_of) (defScope s_figure_of) .none kV16 dc16 pm16 an16 cd16 ct16), sl16⟩) (c16 : PySem.W.codeIn K cd16 "figure_of" = true) (k16 : PySem.W.keepIn K (.ref f16) = true)
    (a17 : PySem.W.nsIn K mainGlobals "line_of" = some (some (.ref f17))) (l17 : K.lookup f17 = some ⟨oc17, od17, .func (PySem.W.fnOf "line_of" "line_of" (defArgs s_line_of) (defBody s_line_of) (defScope s_line_of) .none kV17 dc17 pm17 an17 cd17 ct17), sl17⟩) (c17 : PySem.W.codeIn K cd17 "line_of" = true) (k17 : PySem.W.keepIn K (.ref f17) = true)
    (a18 : PySem.W.nsIn K mainGlobals "side_of_box" = some (some (.ref f18))) (l18 : K.lookup f18 = some ⟨oc18, od18, .func (PySem.W.fnOf "side_of_box" "side_of_box" (defArgs s_side_of_box) (defBody s_side_of_box) (defScope s_side_of_box) .none kV18 dc18 pm18 an18 cd18 ct18), sl18⟩) (c18 : PySem.W.codeIn K cd18 "side_of_box" = true) (k18 : PySem.W.keepIn K (.ref f18) = true)
    (a19 : PySem.W.nsIn K mainGlobals "is_place" = some (some (.ref f19))) (l19 : K.lookup f19 = some ⟨oc19, od19, .func (PySem.W.fnOf "is_place" "is_place" (defArgs s_is_place) (defBody s_is_place) (defScope s_is_place) .none kV19 dc19 pm19 an19 cd19 ct19), sl19⟩) (c19 : PySem.W.codeIn K cd19 "is_place" = true) (k19 : PySem.W.keepIn K (.ref f19) = true)
    (a20 : PySem.W.nsIn K mainGlobals "_law_pot" = some (some (.ref f20))) (l20 : K.lookup f20 = some ⟨oc20, od20, .func (PySem.W.fnOf "_law_pot" "_law_pot" (defArgs s__law_pot) (defBody s__law_pot) (defScope s__law_pot) .none kV20 dc20 pm20 an20 cd20 ct20), sl20⟩) (c20 : PySem.W.codeIn K cd20 "_law_pot" = true) (k20 : PySem.W.keepIn K (.ref f20) = true)
    (a21 : PySem.W.nsIn K mainGlobals "_law_take" = some (some (.ref f21))) (l21 : K.lookup f21 = some ⟨oc21, od21, .func (PySem.W.fnOf "_law_take" "_law_take" (defArgs s__law_take) (defBody s__law_take) (defScope s__law_take) .none kV21 dc21 pm21 an21 cd21 ct21), sl21⟩) (c21 : PySem.W.codeIn K cd21 "_law_take" = true) (k21 : PySem.W.keepIn K (.ref f21) = true)
    (a22 : PySem.W.nsIn K mainGlobals "_law_number" = some (some (.ref f22))) (l22 : K.lookup f22 = some ⟨oc22, od22, .func (PySem.W.fnOf "_law_number" "_law_number" (defArgs s__law_number) (defBody s__law_number) (defScope s__law_number) .none kV22 dc22 pm22 an22 cd22 ct22), sl22⟩) (c22 : PySem.W.codeIn K cd22 "_law_number" = true) (k22 : PySem.W.keepIn K (.ref f22) = true)
    (a23 : PySem.W.nsIn K mainGlobals "_law_deed" = some (some (.ref f23))) (l23 : K.lookup f23 = some ⟨oc23, od23, .func (PySem.W.fnOf "_law_deed" "_law_deed" (defArgs s__law_deed) (defBody s__law_deed) (defScope s__law_deed) .none kV23 dc23 pm23 an23 cd23 ct23), sl23⟩) (c23 : PySem.W.codeIn K cd23 "_law_deed" = true) (k23 : PySem.W.keepIn K (.ref f23) = true)
    (a24 : PySem.W.nsIn K mainGlobals "_law_done" = some (some (.ref f24))) (l24 : K.lookup f24 = some ⟨oc24, od24, .func (PySem.W.fnOf "_law_done" "_law_done" (defArgs s__law_done) (defBody s__law_done) (defScope s__law_done) .none kV24 dc24 pm24 an24 cd24 ct24), sl24⟩) (c24 : PySem.W.codeIn K cd24 "_law_done" = true) (k24 : PySem.W.keepIn K (.ref f24) = true)
    (a25 : PySem.W.nsIn K mainGlobals "_law_ask" = some (some (.ref f25))) (l25 : K.lookup f25 = some ⟨oc25, od25, .func (PySem.W.fnOf "_law_ask" "_law_ask" (defArgs s__law_ask) (defBody s__law_ask) (defScope s__law_ask) .none kV25 dc25 pm25 an25 cd25 ct25), sl25⟩) (c25 : PySem.W.codeIn K cd25 "_law_ask" = true) (k25 : PySem.W.keepIn K (.ref f25) = true)
    (a26 : PySem.W.nsIn K mainGlobals "_law_lost" = some (some (.ref f26))) (l26 : K.lookup f26 = some ⟨oc26, od26, .func (PySem.W.fnOf "_law_lost" "_law_lost" (defArgs s__law_lost) (defBody s__law_lost) (defScope s__law_lost) .none kV26 dc26 pm26 an26 cd26 ct26), sl26⟩) (c26 : PySem.W.codeIn K cd26 "_law_lost" = true) (k26 : PySem.W.keepIn K (.ref f26) = true)
    (a27 : PySem.W.nsIn K mainGlobals "_law_values" = some (some (.ref f27))) (l27 : K.lookup f27 = some ⟨oc27, od27, .func (PySem.W.fnOf "_law_values" "_law_values" (defArgs s__law_values) (defBody s__law_values) (defScope s__law_values) .none kV27 dc27 pm27 an27 cd27 ct27), sl27⟩) (c27 : PySem.W.codeIn K cd27 "_law_values" = true) (k27 : PySem.W.keepIn K (.ref f27) = true)
    (a28 : PySem.W.nsIn K mainGlobals "_law_deed_is" = some (some (.ref f28))) (l28 : K.lookup f28 = some ⟨oc28, od28, .func (PySem.W.fnOf "_law_deed_is" "_law_deed_is" (defArgs s__law_deed_is) (defBody s__law_deed_is) (defScope s__law_deed_is) .none kV28 dc28 pm28 an28 cd28 ct28), sl28⟩) (c28 : PySem.W.codeIn K cd28 "_law_deed_is" = true) (k28 : PySem.W.keepIn K (.ref f28) = true)
    (a29 : PySem.W.nsIn K mainGlobals "_law_entry" = some (some (.ref f29))) (l29 : K.lookup f29 = some ⟨oc29, od29, .func (PySem.W.fnOf "_law_entry" "_law_entry" (defArgs s__law_entry) (defBody s__law_entry) (defScope s__law_entry) .none kV29 dc29 pm29 an29 cd29 ct29), sl29⟩) (c29 : PySem.W.codeIn K cd29 "_law_entry" = true) (k29 : PySem.W.keepIn K (.ref f29) = true)
    (a30 : PySem.W.nsIn K mainGlobals "_law_spots" = some (some (.ref f30))) (l30 : K.lookup f30 = some ⟨oc30, od30, .func (PySem.W.fnOf "_law_spots" "_law_spots" (defArgs s__law_spots) (defBody s__law_spots) (defScope s__law_spots) .none kV30 dc30 pm30 an30 cd30 ct30), sl30⟩) (c30 : PySem.W.codeIn K cd30 "_law_spots" = true) (k30 : PySem.W.keepIn K (.ref f30) = true)
    (a31 : PySem.W.nsIn K mainGlobals "_law_as_put" = some (some (.ref f31))) (l31 : K.lookup f31 = some ⟨oc31, od31, .func (PySem.W.fnOf "_law_as_put" "_law_as_put" (defArgs s__law_as_put) (defBody s__law_as_put) (defScope s__law_as_put) .none kV31 dc31 pm31 an31 cd31 ct31), sl31⟩) (c31 : PySem.W.codeIn K cd31 "_law_as_put" = true) (k31 : PySem.W.keepIn K (.ref f31) = true)
    (a32 : PySem.W.nsIn K mainGlobals "_law_bounds" = some (some (.ref f32))) (l32 : K.lookup f32 = some ⟨oc32, od32, .func (PySem.W.fnOf "_law_bounds" "_law_bounds" (defArgs s__law_bounds) (defBody s__law_bounds) (defScope s__law_bounds) .none kV32 dc32 pm32 an32 cd32 ct32), sl32⟩) (c32 : PySem.W.codeIn K cd32 "_law_bounds" = true) (k32 : PySem.W.keepIn K (.ref f32) = true)
    (a33 : PySem.W.nsIn K mainGlobals "law" = some (some (.ref f33))) (l33 : K.lookup f33 = some ⟨oc33, od33, .func (PySem.W.fnOf "law" "law" (defArgs s_law) (defBody s_law) (defScope s_law) .none kV33 dc33 pm33 an33 cd33 ct33), sl33⟩) (c33 : PySem.W.codeIn K cd33 "law" = true) (k33 : PySem.W.keepIn K (.ref f33) = true)
    (a34 : PySem.W.findIn K (.ref C0) "__init__" = some (some (.ref f34))) (i34 : PySem.W.isFn K (.ref f34) = true) (l34 : K.lookup f34 = some ⟨oc34, od34, .func (PySem.W.fnOf "__init__" "Net.__init__" (defArgs s_Net____init__) (defBody s_Net____init__) (defScope s_Net____init__) .none kV34 dc34 pm34 an34 cd34 ct34), sl34⟩) (c34 : PySem.W.codeIn K cd34 "Net.__init__" = true) (k34 : PySem.W.keepIn K (.ref f34) = true)
    (a35 : PySem.W.findIn K (.ref C0) "put" = some (some (.ref f35))) (i35 : PySem.W.isFn K (.ref f35) = true) (l35 : K.lookup f35 = some ⟨oc35, od35, .func (PySem.W.fnOf "put" "Net.put" (defArgs s_Net__put) (defBody s_Net__put) (defScope s_Net__put) .none kV35 dc35 pm35 an35 cd35 ct35), sl35⟩) (c35 : PySem.W.codeIn K cd35 "Net.put" = true) (k35 : PySem.W.keepIn K (.ref f35) = true)
    (a36 : PySem.W.findIn K (.ref C0) "beat" = some (some (.ref f36))) (i36 : PySem.W.isFn K (.ref f36) = true) (l36 : K.lookup f36 = some ⟨oc36, od36, .func (PySem.W.fnOf "beat" "Net.beat" (defArgs s_Net__beat) (defBody s_Net__beat) (defScope s_Net__beat) (.ref da36) kV36 dc36 pm36 an36 cd36 ct36), sl36⟩) (c36 : PySem.W.codeIn K cd36 "Net.beat" = true) (k36 : PySem.W.keepIn K (.ref f36) = true)
    {dd36 : Option Addr} {dn36 : Nat} {dz36 : Array (Option Value)} (dl36 : K.lookup da36 = some ⟨.type "tuple", dd36, .seq #[.none] dn36, dz36⟩)
    (a37 : PySem.W.findIn K (.ref C0) "log" = some (some (.ref f37))) (i37 : PySem.W.isFn K (.ref f37) = true) (l37 : K.lookup f37 = some ⟨oc37, od37, .func (PySem.W.fnOf "log" "Net.log" (defArgs s_Net__log) (defBody s_Net__log) (defScope s_Net__log) .none kV37 dc37 pm37 an37 cd37 ct37), sl37⟩) (c37 : PySem.W.codeIn K cd37 "Net.log" = true) (k37 : PySem.W.keepIn K (.ref f37) = true)
    (a38 : PySem.W.findIn K (.ref C0) "waiting" = some (some (.ref f38))) (i38 : PySem.W.isFn K (.ref f38) = true) (l38 : K.lookup f38 = some ⟨oc38, od38, .func (PySem.W.fnOf "waiting" "Net.waiting" (defArgs s_Net__waiting) (defBody s_Net__waiting) (defScope s_Net__waiting) .none kV38 dc38 pm38 an38 cd38 ct38), sl38⟩) (c38 : PySem.W.codeIn K cd38 "Net.waiting" = true) (k38 : PySem.W.keepIn K (.ref f38) = true)
    (a39 : PySem.W.findIn K (.ref C0) "joinings" = some (some (.ref f39))) (i39 : PySem.W.isFn K (.ref f39) = true) (l39 : K.lookup f39 = some ⟨oc39, od39, .func (PySem.W.fnOf "joinings" "Net.joinings" (defArgs s_Net__joinings) (defBody s_Net__joinings) (defScope s_Net__joinings) .none kV39 dc39 pm39 an39 cd39 ct39), sl39⟩) (c39 : PySem.W.codeIn K cd39 "Net.joinings" = true) (k39 : PySem.W.keepIn K (.ref f39) = true)
    (a40 : PySem.W.findIn K (.ref C0) "want_hand" = some (some (.ref f40))) (i40 : PySem.W.isFn K (.ref f40) = true) (l40 : K.lookup f40 = some ⟨oc40, od40, .func (PySem.W.fnOf "want_hand" "Net.want_hand" (defArgs s_Net__want_hand) (defBody s_Net__want_hand) (defScope s_Net__want_hand) .none kV40 dc40 pm40 an40 cd40 ct40), sl40⟩) (c40 : PySem.W.codeIn K cd40 "Net.want_hand" = true) (k40 : PySem.W.keepIn K (.ref f40) = true)
    (a41 : PySem.W.findIn K (.ref C0) "want_lost" = some (some (.ref f41))) (i41 : PySem.W.isFn K (.ref f41) = true) (l41 : K.lookup f41 = some ⟨oc41, od41, .func (PySem.W.fnOf "want_lost" "Net.want_lost" (defArgs s_Net__want_lost) (defBody s_Net__want_lost) (defScope s_Net__want_lost) .none kV41 dc41 pm41 an41 cd41 ct41), sl41⟩) (c41 : PySem.W.codeIn K cd41 "Net.want_lost" = true) (k41 : PySem.W.keepIn K (.ref f41) = true)
    (a42 : PySem.W.findIn K (.ref C0) "go_on" = some (some (.ref f42))) (i42 : PySem.W.isFn K (.ref f42) = true) (l42 : K.lookup f42 = some ⟨oc42, od42, .func (PySem.W.fnOf "go_on" "Net.go_on" (defArgs s_Net__go_on) (defBody s_Net__go_on) (defScope s_Net__go_on) .none kV42 dc42 pm42 an42 cd42 ct42), sl42⟩) (c42 : PySem.W.codeIn K cd42 "Net.go_on" = true) (k42 : PySem.W.keepIn K (.ref f42) = true)
    (a43 : PySem.W.findIn K (.ref C0) "is_forgotten" = some (some (.ref f43))) (i43 : PySem.W.isFn K (.ref f43) = true) (l43 : K.lookup f43 = some ⟨oc43, od43, .func (PySem.W.fnOf "is_forgotten" "Net.is_forgotten" (defArgs s_Net__is_forgotten) (defBody s_Net__is_forgotten) (defScope s_Net__is_forgotten) .none kV43 dc43 pm43 an43 cd43 ct43), sl43⟩) (c43 : PySem.W.codeIn K cd43 "Net.is_forgotten" = true) (k43 : PySem.W.keepIn K (.ref f43) = true)
    (a44 : PySem.W.findIn K (.ref C0) "take" = some (some (.ref f44))) (i44 : PySem.W.isFn K (.ref f44) = true) (l44 : K.lookup f44 = some ⟨oc44, od44, .func (PySem.W.fnOf "take" "Net.take" (defArgs s_Net__take) (defBody s_Net__take) (defScope s_Net__take) .none kV44 dc44 pm44 an44 cd44 ct44), sl44⟩) (c44 : PySem.W.codeIn K cd44 "Net.take" = true) (k44 : PySem.W.keepIn K (.ref f44) = true)
    (a45 : PySem.W.findIn K (.ref C0) "hand_on" = some (some (.ref f45))) (i45 : PySem.W.isFn K (.ref f45) = true) (l45 : K.lookup f45 = some ⟨oc45, od45, .func (PySem.W.fnOf "hand_on" "Net.hand_on" (defArgs s_Net__hand_on) (defBody s_Net__hand_on) (defScope s_Net__hand_on) .none kV45 dc45 pm45 an45 cd45 ct45), sl45⟩) (c45 : PySem.W.codeIn K cd45 "Net.hand_on" = true) (k45 : PySem.W.keepIn K (.ref f45) = true)
    (a46 : PySem.W.findIn K (.ref C0) "end" = some (some (.ref f46))) (i46 : PySem.W.isFn K (.ref f46) = true) (l46 : K.lookup f46 = some ⟨oc46, od46, .func (PySem.W.fnOf "end" "Net.end" (defArgs s_Net__end) (defBody s_Net__end) (defScope s_Net__end) .none kV46 dc46 pm46 an46 cd46 ct46), sl46⟩) (c46 : PySem.W.codeIn K cd46 "Net.end" = true) (k46 : PySem.W.keepIn K (.ref f46) = true)
    (a47 : PySem.W.findIn K (.ref C0) "does_go" = some (some (.ref f47))) (i47 : PySem.W.isFn K (.ref f47) = true) (l47 : K.lookup f47 = some ⟨oc47, od47, .func (PySem.W.fnOf "does_go" "Net.does_go" (defArgs s_Net__does_go) (defBody s_Net__does_go) (defScope s_Net__does_go) .none kV47 dc47 pm47 an47 cd47 ct47), sl47⟩) (c47 : PySem.W.codeIn K cd47 "Net.does_go" = true) (k47 : PySem.W.keepIn K (.ref f47) = true)
    (z0 : PySem.W.nsIn K mainGlobals "all" = some none)
    (z1 : PySem.W.nsIn K mainGlobals "bool" = some none)
    (z2 : PySem.W.nsIn K mainGlobals "divmod" = some none)
    (z3 : PySem.W.nsIn K mainGlobals "enumerate" = some none)
    (z4 : PySem.W.nsIn K mainGlobals "int" = some none)
    (z5 : PySem.W.nsIn K mainGlobals "isinstance" = some none)
    (z6 : PySem.W.nsIn K mainGlobals "len" = some none)
    (z7 : PySem.W.nsIn K mainGlobals "list" = some none)
    (z8 : PySem.W.nsIn K mainGlobals "max" = some none)
    (z9 : PySem.W.nsIn K mainGlobals "min" = some none)
    (z10 : PySem.W.nsIn K mainGlobals "range" = some none)
    (z11 : PySem.W.nsIn K mainGlobals "sorted" = some none)
    (z12 : PySem.W.nsIn K mainGlobals "sum" = some none)
    (z13 : PySem.W.nsIn K mainGlobals "tuple" = some none)
    {tc0 : Tok} (cst0 : PySem.W.nsIn K mainGlobals "MOST_BOXES" = some (some (.int (16) tc0)))
    {tc1 : Tok} (cst1 : PySem.W.nsIn K mainGlobals "HANDS" = some (some (.int (16) tc1)))
    {tc2 : Tok} (cst2 : PySem.W.nsIn K mainGlobals "MOST_ROOM" = some (some (.int (6) tc2)))
    {tc3 : Tok} (cst3 : PySem.W.nsIn K mainGlobals "MOST_KEPT" = some (some (.int (6) tc3)))
    {tc4 : Tok} (cst4 : PySem.W.nsIn K mainGlobals "MOST_ASKS" = some (some (.int (40) tc4)))
    : AllD K mg := by
  exact ⟨Df.of l1 c1 k1 (PySem.W.mg_of X G a1) (fun _ _ _ _ _ _ us hl => match us, hl with | [_], _ => rfl), Df.of l2 c2 k2 (PySem.W.mg_of X G a2) (fun _ _ _ _ _ _ us hl => match us, hl with | [_], _ => rfl), Df.of l3 c3 k3 (PySem.W.mg_of X G a3) (fun _ _ _ _ _ _ us hl => match us, hl with | [_, _, _], _ => rfl), Df.of l4 c4 k4 (PySem.W.mg_of X G a4) (fun _ _ _ _ _ _ us hl => match us, hl with | [_], _ => rfl), Df.of l5 c5 k5 (PySem.W.mg_of X G a5) (fun _ _ _ _ _ _ us hl => match us, hl with | [_, _], _ => rfl), Df.of l6 c6 k6 (PySem.W.mg_of X G a6) (fun _ _ _ _ _ _ us hl => match us, hl with | [_, _, _], _ => rfl), Dfd.of (n := 1) l7 c7 k7 (PySem.W.mg_of X G a7) dl7 rfl (.cons ⟨_, rfl⟩ .nil) rfl (fun us hl => match us, hl with | [_], _ => ⟨_, rfl, rfl⟩), Df.of l8 c8 k8 (PySem.W.mg_of X G a8) (fun _ _ _ _ _ _ us hl => match us, hl with | [_], _ => rfl), Df.of l9 c9 k9 (PySem.W.mg_of X G a9) (fun _ _ _ _ _ _ us hl => match us, hl with | [_], _ => rfl), Df.of l10 c10 k10 (PySem.W.mg_of X G a10) (fun _ _ _ _ _ _ us hl => match us, hl with | [_, _], _ => rfl), Df.of l11 c11 k11 (PySem.W.mg_of X G a11) (fun _ _ _ _ _ _ us hl => match us, hl with | [_, _, _], _ => rfl), Df.of l12 c12 k12 (PySem.W.mg_of X G a12) (fun _ _ _ _ _ _ us hl => match us, hl with | [_, _], _ => rfl), Df.of l13 c13 k13 (PySem.W.mg_of X G a13) (fun _ _ _ _ _ _ us hl => match us, hl with | [_], _ => rfl), Df.of l14 c14 k14 (PySem.W.mg_of X G a14) (fun _ _ _ _ _ _ us hl => match us, hl with | [_], _ => rfl), Df.of l15 c15 k15 (PySem.W.mg_of X G a15) (fun _ _ _ _ _ _ us hl => match us, hl with | [_, _], _ => rfl), Df.of l16 c16 k16 (PySem.W.mg_of X G a16) (fun _ _ _ _ _ _ us hl => match us, hl with | [_, _, _], _ => rfl), Df.of l17 c17 k17 (PySem.W.mg_of X G a17) (fun _ _ _ _ _ _ us hl => match us, hl with | [_, _, _, _], _ => rfl), Df.of l18 c18 k18 (PySem.W.mg_of X G a18) (fun _ _ _ _ _ _ us hl => match us, hl with | [_, _], _ => rfl), Df.of l19 c19 k19 (PySem.W.mg_of X G a19) (fun _ _ _ _ _ _ us hl => match us, hl with | [_, _], _ => rfl), Df.of l20 c20 k20 (PySem.W.mg_of X G a20) (fun _ _ _ _ _ _ us hl => match us, hl with | [_, _], _ => rfl), Df.of l21 c21 k21 (PySem.W.mg_of X G a21) (fun _ _ _ _ _ _ us hl => match us, hl with | [_, _], _ => rfl), Df.of l22 c22 k22 (PySem.W.mg_of X G a22) (fun _ _ _ _ _ _ us hl => match us, hl with | [_], _ => rfl), Df.of l23 c23 k23 (PySem.W.mg_of X G a23) (fun _ _ _ _ _ _ us hl => match us, hl with | [_], _ => rfl), Df.of l24 c24 k24 (PySem.W.mg_of X G a24) (fun _ _ _ _ _ _ us hl => match us, hl with | [_, _], _ => rfl), Df.of l25 c25 k25 (PySem.W.mg_of X G a25) (fun _ _ _ _ _ _ us hl => match us, hl with | [_, _, _, _], _ => rfl), Df.of l26 c26 k26 (PySem.W.mg_of X G a26) (fun _ _ _ _ _ _ us hl => match us, hl with | [_, _], _ => rfl), Df.of l27 c27 k27 (PySem.W.mg_of X G a27) (fun _ _ _ _ _ _ us hl => match us, hl with | [_], _ => rfl), Df.of l28 c28 k28 (PySem.W.mg_of X G a28) (fun _ _ _ _ _ _ us hl => match us, hl with | [_, _], _ => rfl), Df.of l29 c29 k29 (PySem.W.mg_of X G a29) (fun _ _ _ _ _ _ us hl => match us, hl with | [_, _, _, _, _], _ => rfl), Df.of l30 c30 k30 (PySem.W.mg_of X G a30) (fun _ _ _ _ _ _ us hl => match us, hl with | [_, _, _], _ => rfl), Df.of l31 c31 k31 (PySem.W.mg_of X G a31) (fun _ _ _ _ _ _ us hl => match us, hl with | [_], _ => rfl), Df.of l32 c32 k32 (PySem.W.mg_of X G a32) (fun _ _ _ _ _ _ us hl => match us, hl with | [_, _, _, _, _], _ => rfl), Df.of l33 c33 k33 (PySem.W.mg_of X G a33) (fun _ _ _ _ _ _ us hl => match us, hl with | [_], _ => rfl), DfI.of (PySem.W.mg_of X G aC0) a34 i34 l34 c34 k34 mk0 kc0 (fun _ _ _ _ _ _ us hl => match us, hl with | [_, _, _, _, _], _ => rfl), DfM.of (PySem.W.mg_of X G aC0) a35 i35 l35 c35 k35 (fun _ _ _ _ _ _ us hl => match us, hl with | [_, _], _ => rfl), DfMd.of (n := 1) (PySem.W.mg_of X G aC0) a36 i36 l36 c36 k36 dl36 rfl (.cons rfl .nil) rfl (fun us hl => match us, hl with | [_], _ => ⟨_, rfl, rfl⟩), DfM.of (PySem.W.mg_of X G aC0) a37 i37 l37 c37 k37 (fun _ _ _ _ _ _ us hl => match us, hl with | [_], _ => rfl), DfM.of (PySem.W.mg_of X G aC0) a38 i38 l38 c38 k38 (fun _ _ _ _ _ _ us hl => match us, hl with | [_, _, _], _ => rfl), DfM.of (PySem.W.mg_of X G aC0) a39 i39 l39 c39 k39 (fun _ _ _ _ _ _ us hl => match us, hl with | [_, _, _], _ => rfl), DfM.of (PySem.W.mg_of X G aC0) a40 i40 l40 c40 k40 (fun _ _ _ _ _ _ us hl => match us, hl with | [_, _], _ => rfl), DfM.of (PySem.W.mg_of X G aC0) a41 i41 l41 c41 k41 (fun _ _ _ _ _ _ us hl => match us, hl with | [_, _], _ => rfl), DfM.of (PySem.W.mg_of X G aC0) a42 i42 l42 c42 k42 (fun _ _ _ _ _ _ us hl => match us, hl with | [_, _], _ => rfl), DfM.of (PySem.W.mg_of X G aC0) a43 i43 l43 c43 k43 (fun _ _ _ _ _ _ us hl => match us, hl with | [_, _], _ => rfl), DfM.of (PySem.W.mg_of X G aC0) a44 i44 l44 c44 k44 (fun _ _ _ _ _ _ us hl => match us, hl with | [_, _], _ => rfl), DfM.of (PySem.W.mg_of X G aC0) a45 i45 l45 c45 k45 (fun _ _ _ _ _ _ us hl => match us, hl with | [_, _, _], _ => rfl), DfM.of (PySem.W.mg_of X G aC0) a46 i46 l46 c46 k46 (fun _ _ _ _ _ _ us hl => match us, hl with | [_, _], _ => rfl), DfM.of (PySem.W.mg_of X G aC0) a47 i47 l47 c47 k47 (fun _ _ _ _ _ _ us hl => match us, hl with | [_, _, _, _], _ => rfl), DfMd.ofAll (n := 2) (PySem.W.mg_of X G aC0) a36 i36 l36 c36 k36 dl36 rfl rfl (fun us hl => match us, hl with | [_, _], _ => ⟨_, rfl, rfl⟩), ⟨PySem.W.mg_none_of X G z0, PySem.W.mg_none_of X G z1, PySem.W.mg_none_of X G z2, PySem.W.mg_none_of X G z3, PySem.W.mg_none_of X G z4, PySem.W.mg_none_of X G z5, PySem.W.mg_none_of X G z6, PySem.W.mg_none_of X G z7, PySem.W.mg_none_of X G z8, PySem.W.mg_none_of X G z9, PySem.W.mg_none_of X G z10, PySem.W.mg_none_of X G z11, PySem.W.mg_none_of X G z12, PySem.W.mg_none_of X G z13, ⟨_, PySem.W.mg_of X G cst0⟩, ⟨_, PySem.W.mg_of X G cst1⟩, ⟨_, PySem.W.mg_of X G cst2⟩, ⟨_, PySem.W.mg_of X G cst3⟩, ⟨_, PySem.W.mg_of X G cst4⟩, ClsF.of (PySem.W.mg_of X G aC0) ⟨pg0, hd0, po0, sa0⟩ (by intro f hf; simp only [List.mem_cons, List.not_mem_nil, or_false] at hf; rcases hf with rfl | rfl | rfl | rfl | rfl | rfl | rfl | rfl | rfl | rfl | rfl <;> assumption)⟩⟩

theorem law_fd {P : Program} {w : World} {K : PySem.W.Frag} {mg : Str → Option Value} {fa : Addr} (A : AllD K mg) (hfa : mg "law" = some (.ref fa)) :
    ∃ fd : FuncData, (∀ (s : Shared) (v : Value), BindsTo s fd ⟨[v], []⟩ [("_law_script", v)]) ∧ ∀ base : Heap, K.In base → base.Ns mainGlobals mg → FnG P w K mg base CX0 20 fa fd ["_law_script"] (spLaw K) := by
  obtain ⟨f, fd, F, m, b⟩ := A.d_law.ex
  have e := hfa.symm.trans m
  cases e
  refine ⟨fd, fun s v => by obtain ⟨oc, od, kV, doc, pm, an, cdv, ct, osl, rfl, lk, hcd⟩ := F.ex; exact .of_eq rfl, fun base _ _ => ?_⟩
  have B := A.bl
  have D_is_whole : Dn P w K mg base 1 "is_whole" ["thing"] spIsWhole := k_is_whole B A.d_is_whole 
  have D_is_row_of : Dn P w K mg base 1 "is_row_of" ["thing", "many"] (spIsRow K) := k_is_row_of B A.d_is_row_of 
  have D_is_end : Dn P w K mg base 2 "is_end" ["thing"] spIsEnd := k_is_end B A.d_is_end D_is_whole
  have D_is_deed : Dn P w K mg base 3 "is_deed" ["thing"] (spIsDeed K) := k_is_deed B A.d_is_deed D_is_whole D_is_row_of D_is_end
  have D_put_through : Dn P w K mg base 1 "put_through" ["deed", "value"] (spPut K) := k_put_through B A.d_put_through 
  have D_whole_deed : Dn P w K mg base 1 "whole_deed" ["add", "low", "high"] spWholeDeed := k_whole_deed B A.d_whole_deed 
  have D_one_behind : Dn P w K mg base 2 "one_behind" ["one", "other"] (spBehind K) := k_one_behind B A.d_one_behind D_put_through D_whole_deed
  have D_is_within : Dn P w K mg base 2 "is_within" ["thing", "least", "most"] spIsWithin := k_is_within B A.d_is_within D_is_whole
  have D_want_net : DnD P w K mg base 3 "want_net" ["k", "deepest"] [.int 4] spWantNet := k_want_net B A.d_want_net D_is_within
  have D_want_within : Dn P w K mg base 3 "want_within" ["thing", "least", "most"] spWantWithin := k_want_within B A.d_want_within D_is_within
  have D_is_board : Dn P w K mg base 2 "is_board" ["thing"] (spIsBoard K) := k_is_board B A.d_is_board D_is_whole
  have D_want_board : Dn P w K mg base 3 "want_board" ["board"] (spWantBoard K) := k_want_board B A.d_want_board D_is_board
  have D_is_ask : Dn P w K mg base 4 "is_ask" ["board", "thing"] (spIsAskL K) := k_is_ask B A.d_is_ask D_is_whole D_is_deed
  have D_figure_of : Dn P w K mg base 1 "figure_of" ["k", "line", "stage"] spFigOf := k_figure_of B A.d_figure_of 
  have D_side_of_box : Dn P w K mg base 1 "side_of_box" ["k", "box"] spSide4 := k_side_of_box B A.d_side_of_box 
  have D_line_of : Dn P w K mg base 1 "line_of" ["k", "stage", "number", "figure"] spLineS := k_line_of B A.d_line_of 
  have D_is_row : Dn P w K mg base 1 "is_row" ["thing"] (spRow K) := k_is_row B A.d_is_row 
  have D_is_place : Dn P w K mg base 4 "is_place" ["k", "thing"] (spPlace K) := k_is_place B A.d_is_place D_is_row_of D_is_within
  have D_Net__want_hand : DnM P w K mg base (cAt mg "Net") 1 "want_hand" ["self", "hand"] (spWHand K (cAt mg "Net")) := k_Net__want_hand B A.d_Net__want_hand 
  have D_Net__is_forgotten : DnM P w K mg base (cAt mg "Net") 1 "is_forgotten" ["self", "pair"] (spFgt K (cAt mg "Net")) := k_Net__is_forgotten B A.d_Net__is_forgotten 
  have D_Net__log : DnM P w K mg base (cAt mg "Net") 1 "log" ["self"] (spLog K (cAt mg "Net")) := k_Net__log B A.d_Net__log 
  have D_Net__end : DnM P w K mg base (cAt mg "Net") 12 "end" ["self", "number"] (spEnd K (cAt mg "Net")) := k_Net__end B A.d_Net__end D_put_through
  have D_Net__take : DnM P w K mg base (cAt mg "Net") 13 "take" ["self", "side"] (spTake K (cAt mg "Net")) := k_Net__take B A.d_Net__take D_Net__end
  have D_Net__joinings : DnM P w K mg base (cAt mg "Net") 14 "joinings" ["self", "stage", "number"] (spJoins K (cAt mg "Net")) := k_Net__joinings B A.d_Net__joinings D_is_within D_is_place
  have D_Net__does_go : DnM P w K mg base (cAt mg "Net") 15 "does_go" ["self", "stage", "number", "one"] (spDoes K (cAt mg "Net")) := k_Net__does_go B A.d_Net__does_go D_line_of D_figure_of D_side_of_box D_Net__joinings D_one_behind
  have D_Net__hand_on : DnM P w K mg base (cAt mg "Net") 16 "hand_on" ["self", "stage", "number"] (spHand K (cAt mg "Net")) := k_Net__hand_on B A.d_Net__hand_on D_line_of D_Net__does_go
  have D_Net__waiting : DnM P w K mg base (cAt mg "Net") 5 "waiting" ["self", "level", "line"] (spWaiting K (cAt mg "Net")) := k_Net__waiting B A.d_Net__waiting D_is_within
  have D_Net__go_on : DnM P w K mg base (cAt mg "Net") 17 "go_on" ["self", "lost"] (spGoOn K (cAt mg "Net")) := k_Net__go_on B A.d_Net__go_on D_Net__is_forgotten D_Net__take D_Net__hand_on
  have D_Net__want_lost : DnM P w K mg base (cAt mg "Net") 6 "want_lost" ["self", "lost"] (spWLost K (cAt mg "Net")) := k_Net__want_lost B A.d_Net__want_lost D_is_row D_is_place
  have D_Net__put : DnM P w K mg base (cAt mg "Net") 6 "put" ["self", "ask"] (spPutN K (cAt mg "Net")) := k_Net__put B A.d_Net__put D_is_ask D_Net__want_hand
  have D_Net__beat : DnMd P w K mg base (cAt mg "Net") 18 "beat" ["self", "lost"] [.non] (spBeat K (cAt mg "Net")) := k_Net__beat B A.d_Net__beat D_Net__want_lost D_Net__go_on
  have D_Net__beat_all : DnMd P w K mg base (cAt mg "Net") 18 "beat" ["self", "lost"] [] (spBeat K (cAt mg "Net")) := k_Net__beat_all B A.e_Net__beat D_Net__want_lost D_Net__go_on
  have D_Net____init__ : DnI P w K mg base (cAt mg "Net") 7 ["self", "k", "board", "room", "kept"] (spNetIn K (cAt mg "Net")) := k_Net____init__ B A.d_Net____init__ D_want_net D_want_within D_want_board
  have D__law_pot : Dn P w K mg base 1 "_law_pot" ["_law_script", "_law_k"] (spPotL K) := k__law_pot B A.d__law_pot 
  have D__law_take : Dn P w K mg base 1 "_law_take" ["_law_pot_here", "_law_many"] spTakeL := k__law_take B A.d__law_take 
  have D__law_number : Dn P w K mg base 2 "_law_number" ["_law_pot_here"] spNumL := k__law_number B A.d__law_number D__law_take
  have D__law_deed : Dn P w K mg base 3 "_law_deed" ["_law_pot_here"] (spDeedL K) := k__law_deed B A.d__law_deed D__law_take D__law_number
  have D__law_ask : Dn P w K mg base 4 "_law_ask" ["_law_pot_here", "_law_k", "_law_many", "_law_some"] (spAskL K) := k__law_ask B A.d__law_ask D__law_take D__law_deed
  have D__law_lost : Dn P w K mg base 4 "_law_lost" ["_law_pot_here", "_law_k"] (spLostL K) := k__law_lost B A.d__law_lost D__law_take
  have D__law_done : Dn P w K mg base 1 "_law_done" ["_law_deed_here", "_law_value"] (spLDone K) := k__law_done B A.d__law_done 
  have D__law_values : Dn P w K mg base 2 "_law_values" ["_law_asks"] (spVals55 K) := k__law_values B A.d__law_values 
  have D__law_deed_is : Dn P w K mg base 3 "_law_deed_is" ["_law_deed_here", "_law_asks"] (spDeedIs K) := k__law_deed_is B A.d__law_deed_is D__law_values D__law_done
  have D__law_spots : Dn P w K mg base 1 "_law_spots" ["_law_first", "_law_k", "_law_many"] spSpotsX := k__law_spots B A.d__law_spots 
  have D__law_entry : Dn P w K mg base 4 "_law_entry" ["_law_k", "_law_level", "_law_line", "_law_one", "_law_asks"] (spEntry K) := k__law_entry B A.d__law_entry D__law_deed_is
  have D__law_as_put : Dn P w K mg base 1 "_law_as_put" ["_law_row"] (spAsPut K) := k__law_as_put B A.d__law_as_put 
  have D__law_bounds : Dn P w K mg base 15 "_law_bounds" ["_law_net", "_law_k", "_law_room", "_law_kept", "_law_asks"] (spBounds K (cAt mg "Net")) := k__law_bounds B A.d__law_bounds D_Net__log D_Net__waiting D_Net__joinings D__law_spots D__law_entry D__law_as_put
  exact k_law B F D__law_pot D__law_take D__law_number D__law_ask D__law_lost D_Net____init__ D_Net__put D_Net__beat D_Net__beat_all D__law_bounds

theorem walk {l : PySem.W.OpenLaw} {q : Program} {loose : List Str} {XP : (Str → Option Value) → Heap → Prop} {YP : World → Heap → Prop} {d : DefRec} {K : Params → PySem.W.Frag} (hn : l.most = some 63) (hdf : d.params.defaults = [])
    (hY : ∀ (w : World) (h : Heap), YP w h → (K w.params).In h) (hname : d.name = "law") (F : ∀ (w : World) (mg : Str → Option Value) (h : Heap), (K w.params).In h → h.Ns mainGlobals mg → AllD (K w.params) mg) :
    PySem.W.WalkO q loose XP YP l.row.toRowW d [] (fun f vs => PySem.call f vs) :=
  walk_G (n := 63) (k := 20) (x := "_law_script") (sp := spLaw) hn (by decide) hdf ⟨rfl, by decide, by decide⟩ hY
    (fun w mg fa h KX G hfa => law_fd (F w mg h KX G) (by rw [hname] at hfa; exact hfa)) fun _ _ a ns hl hS => ⟨a, ns, rfl, hS, hl, fun _ => rfl⟩
end Toy
open PySem PySem.W PyProof.Rows
set_option maxRecDepth 100000 in
set_option maxHeartbeats 0 in
theorem PySem.Challenge.cw_joinedasks_k55_room_and_kept_holds : PySem.Challenge.rw_joinedasks_k55_room_and_kept.Holds := by
  w_on; o_law; k_head; (case hw => w_witness2)
  k_fill
  refine Toy.walk (l := PySem.Challenge.rw_joinedasks_k55_room_and_kept) rfl rfl (fun w h Y => PySem.W.kIn_of Y) rfl ?F
  case F =>
    intro w mg h KX G
    refine' Toy.all_mk (w := w) KX G ?aC0 ?pg0 ?hd0 ?po0 ?sa0 ?mk0 ?kc0 ?nf0_0 ?nf0_1 ?nf0_2 ?nf0_3 ?nf0_4 ?nf0_5 ?nf0_6 ?nf0_7 ?nf0_8 ?nf0_9 ?nf0_10 ?a1 ?l1 ?c1 ?k1 ?a2 ?l2 ?c2 ?k2 ?a3 ?l3 ?c3 ?k3 ?a4 ?l4 ?c4 ?k4 ?a5 ?l5 ?c5 ?k5 ?a6 ?l6 ?c6 ?k6 ?a7 ?l7 ?c7 ?k7 ?dl7 ?a8 ?l8 ?c8 ?k8 ?a9 ?l9 ?c9 ?k9 ?a10 ?l10 ?c10 ?k10 ?a11 ?l11 ?c11 ?k11 ?a12 ?l12 ?c12 ?k12 ?a13 ?l13 ?c13 ?k13 ?a14 ?l14 ?c14 ?k14 ?a15 ?l15 ?c15 ?k15 ?a16 ?l16 ?c16 ?k16 ?a17 ?l17 ?c17 ?k17 ?a18 ?l18 ?c18 ?k18 ?a19 ?l19 ?c19 ?k19 ?a20 ?l20 ?c20 ?k20 ?a21 ?l21 ?c21 ?k21 ?a22 ?l22 ?c22 ?k22 ?a23 ?l23 ?c23 ?k23 ?a24 ?l24 ?c24 ?k24 ?a25 ?l25 ?c25 ?k25 ?a26 ?l26 ?c26 ?k26 ?a27 ?l27 ?c27 ?k27 ?a28 ?l28 ?c28 ?k28 ?a29 ?l29 ?c29 ?k29 ?a30 ?l30 ?c30 ?k30 ?a31 ?l31 ?c31 ?k31 ?a32 ?l32 ?c32 ?k32 ?a33 ?l33 ?c33 ?k33 ?a34 ?i34 ?l34 ?c34 ?k34 ?a35 ?i35 ?l35 ?c35 ?k35 ?a36 ?i36 ?l36 ?c36 ?k36 ?dl36 ?a37 ?i37 ?l37 ?c37 ?k37 ?a38 ?i38 ?l38 ?c38 ?k38 ?a39 ?i39 ?l39 ?c39 ?k39 ?a40 ?i40 ?l40 ?c40 ?k40 ?a41 ?i41 ?l41 ?c41 ?k41 ?a42 ?i42 ?l42 ?c42 ?k42 ?a43 ?i43 ?l43 ?c43 ?k43 ?a44 ?i44 ?l44 ?c44 ?k44 ?a45 ?i45 ?l45 ?c45 ?k45 ?a46 ?i46 ?l46 ?c46 ?k46 ?a47 ?i47 ?l47 ?c47 ?k47 ?z0 ?z1 ?z2 ?z3 ?z4 ?z5 ?z6 ?z7 ?z8 ?z9 ?z10 ?z11 ?z12 ?z13 ?cst0 ?cst1 ?cst2 ?cst3 ?cst4
    (case aC0 => k_is)
    (case pg0 => k_is)
    (case hd0 => k_is)
    (case po0 => k_is)
    (case sa0 => k_is)
    (case mk0 => k_is)
    (case kc0 => k_is)
    (case nf0_0 => k_is)
    (case nf0_1 => k_is)
    (case nf0_2 => k_is)
    (case nf0_3 => k_is)
    (case nf0_4 => k_is)
    (case nf0_5 => k_is)
    (case nf0_6 => k_is)
    (case nf0_7 => k_is)
    (case nf0_8 => k_is)
    (case nf0_9 => k_is)
    (case nf0_10 => k_is)
    (case a1 => k_is)
    (case l1 => k_is)
    (case c1 => k_is)
    (case k1 => k_is)
    (case a2 => k_is)
    (case l2 => k_is)
    (case c2 => k_is)
    (case k2 => k_is)
    (case a3 => k_is)
    (case l3 => k_is)
    (case c3 => k_is)
    (case k3 => k_is)
    (case a4 => k_is)
    (case l4 => k_is)
    (case c4 => k_is)
    (case k4 => k_is)
    (case a5 => k_is)
    (case l5 => k_is)
    (case c5 => k_is)
    (case k5 => k_is)
    (case a6 => k_is)
    (case l6 => k_is)
    (case c6 => k_is)
    (case k6 => k_is)
    (case a7 => k_is)
    (case l7 => k_is)
    (case c7 => k_is)
    (case k7 => k_is)
    (case dl7 => k_is)
    (case a8 => k_is)
    (case l8 => k_is)
    (case c8 => k_is)
    (case k8 => k_is)
    (case a9 => k_is)
    (case l9 => k_is)
    (case c9 => k_is)
    (case k9 => k_is)
    (case a10 => k_is)
    (case l10 => k_is)
    (case c10 => k_is)
    (case k10 => k_is)
    (case a11 => k_is)
    (case l11 => k_is)
    (case c11 => k_is)
    (case k11 => k_is)
    (case a12 => k_is)
    (case l12 => k_is)
    (case c12 => k_is)
    (case k12 => k_is)
    (case a13 => k_is)
    (case l13 => k_is)
    (case c13 => k_is)
    (case k13 => k_is)
    (case a14 => k_is)
    (case l14 => k_is)
    (case c14 => k_is)
    (case k14 => k_is)
    (case a15 => k_is)
    (case l15 => k_is)
    (case c15 => k_is)
    (case k15 => k_is)
    (case a16 => k_is)
    (case l16 => k_is)
    (case c16 => k_is)
    (case k16 => k_is)
    (case a17 => k_is)
    (case l17 => k_is)
    (case c17 => k_is)
    (case k17 => k_is)
    (case a18 => k_is)
    (case l18 => k_is)
    (case c18 => k_is)
    (case k18 => k_is)
    (case a19 => k_is)
    (case l19 => k_is)
    (case c19 => k_is)
    (case k19 => k_is)
    (case a20 => k_is)
    (case l20 => k_is)
    (case c20 => k_is)
    (case k20 => k_is)
    (case a21 => k_is)
    (case l21 => k_is)
    (case c21 => k_is)
    (case k21 => k_is)
    (case a22 => k_is)
    (case l22 => k_is)
    (case c22 => k_is)
    (case k22 => k_is)
    (case a23 => k_is)
    (case l23 => k_is)
    (case c23 => k_is)
    (case k23 => k_is)
    (case a24 => k_is)
    (case l24 => k_is)
    (case c24 => k_is)
    (case k24 => k_is)
    (case a25 => k_is)
    (case l25 => k_is)
    (case c25 => k_is)
    (case k25 => k_is)
    (case a26 => k_is)
    (case l26 => k_is)
    (case c26 => k_is)
    (case k26 => k_is)
    (case a27 => k_is)
    (case l27 => k_is)
    (case c27 => k_is)
    (case k27 => k_is)
    (case a28 => k_is)
    (case l28 => k_is)
    (case c28 => k_is)
    (case k28 => k_is)
    (case a29 => k_is)
    (case l29 => k_is)
    (case c29 => k_is)
    (case k29 => k_is)
    (case a30 => k_is)
    (case l30 => k_is)
    (case c30 => k_is)
    (case k30 => k_is)
    (case a31 => k_is)
    (case l31 => k_is)
    (case c31 => k_is)
    (case k31 => k_is)
    (case a32 => k_is)
    (case l32 => k_is)
    (case c32 => k_is)
    (case k32 => k_is)
    (case a33 => k_is)
    (case l33 => k_is)
    (case c33 => k_is)
    (case k33 => k_is)
    (case a34 => k_is)
    (case i34 => k_is)
    (case l34 => k_is)
    (case c34 => k_is)
    (case k34 => k_is)
    (case a35 => k_is)
    (case i35 => k_is)
    (case l35 => k_is)
    (case c35 => k_is)
    (case k35 => k_is)
    (case a36 => k_is)
    (case i36 => k_is)
    (case l36 => k_is)
    (case c36 => k_is)
    (case k36 => k_is)
    (case dl36 => k_is)
    (case a37 => k_is)
    (case i37 => k_is)
    (case l37 => k_is)
    (case c37 => k_is)
    (case k37 => k_is)
    (case a38 => k_is)
    (case i38 => k_is)
    (case l38 => k_is)
    (case c38 => k_is)
    (case k38 => k_is)
    (case a39 => k_is)
    (case i39 => k_is)
    (case l39 => k_is)
    (case c39 => k_is)
    (case k39 => k_is)
    (case a40 => k_is)
    (case i40 => k_is)
    (case l40 => k_is)
    (case c40 => k_is)
    (case k40 => k_is)
    (case a41 => k_is)
    (case i41 => k_is)
    (case l41 => k_is)
    (case c41 => k_is)
    (case k41 => k_is)
    (case a42 => k_is)
    (case i42 => k_is)
    (case l42 => k_is)
    (case c42 => k_is)
    (case k42 => k_is)
    (case a43 => k_is)
    (case i43 => k_is)
    (case l43 => k_is)
    (case c43 => k_is)
    (case k43 => k_is)
    (case a44 => k_is)
    (case i44 => k_is)
    (case l44 => k_is)
    (case c44 => k_is)
    (case k44 => k_is)
    (case a45 => k_is)
    (case i45 => k_is)
    (case l45 => k_is)
    (case c45 => k_is)
    (case k45 => k_is)
    (case a46 => k_is)
    (case i46 => k_is)
    (case l46 => k_is)
    (case c46 => k_is)
    (case k46 => k_is)
    (case a47 => k_is)
    (case i47 => k_is)
    (case l47 => k_is)
    (case c47 => k_is)
    (case k47 => k_is)
    (case z0 => k_is)
    (case z1 => k_is)
    (case z2 => k_is)
    (case z3 => k_is)
    (case z4 => k_is)
    (case z5 => k_is)
    (case z6 => k_is)
    (case z7 => k_is)
    (case z8 => k_is)
    (case z9 => k_is)
    (case z10 => k_is)
    (case z11 => k_is)
    (case z12 => k_is)
    (case z13 => k_is)
    (case cst0 => k_is)
    (case cst1 => k_is)
    (case cst2 => k_is)
    (case cst3 => k_is)
    (case cst4 => k_is)
#print axioms PySem.Challenge.cw_joinedasks_k55_room_and_kept_holds

