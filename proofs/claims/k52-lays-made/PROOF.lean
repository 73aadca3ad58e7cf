import PyProof.Rows.All
import Wide.All
import OpenK.AllK
import Wide.FinOn
import HandS.ForMost
import HandS.Wide
import HandS.Zip
import HandS.TupAny
import HandS.RaiseMore
import HandS.Walk
import HandS.Flow
import HandS.Style
import HandS.ExcInit
import HandS.ExcField
import HandS.ExcOwn
import HandS.WordsExc
import HandS.IsInst
import HandS.Exc
import HandS.Defaults
import PyProof.StrBlock2
import PyProof.CallFns
import PyProof.CallStr
import HandS.SlotsOwn
import OpenK.KOps
import KE.KCallOwn
import KE.KFmtOwn
import HandS.StrMore
import HandS.FStr
import HandS.ExcValue
import PyProof.LongRange
import PyProof.Rows.GenSrcRange
import HandS.Rev
import HandS.TryOnly
import HandS.More
import KE.GoesZip
import KE.GoesMore
import HandS.Deep
import PyProof.EqAt
import KE.GoesEnum
import HandS.Conv
import PyProof.ListStr
import HandS.TupLe
import HandS.ExcIs
import KE.KExcIs
import PyProof.ReprNest
import PyProof.NeKinds
import HandS.Codes
import HandS.Replace
import KE.KDictZip
import PyProof.ListNew
import HandS.Flt
import HandS.EndBits
import PyProof.ReprRoads
import KE.KDictSum
import HandS.HotCalls
import HandS.ExcInitHot
import HandS.RaiseFrom
import HandS.SuiteRaise
import KE.KDictOf
import HandS.Strs
import PySem.Challenge.RW_gridplaces_k52_lays_made
set_option Elab.async false
set_option linter.all false
set_option maxRecDepth 100000
set_option maxHeartbeats 2000000
namespace Lay
open PySem PySem.Spec PyProof.Rows L2

/-! ### defs that may show data: no repr is under way around them -/
theorem guards_deep {A : Around} {env : Env} (h : A.guards = some []) : (A.deeper env).guards = some [] := h
theorem guards_make {A : Around} {C : Addr} {us : List Value} {kw : List (Str × Value)} (h : A.guards = some []) :
    (A.under (.builtin "type.__call__" ⟨.ref C :: us, kw⟩)).guards = some [] := by
  first | exact h | (simp [Around.under, Code.guards, Code.isGuard, guardIds, h])

/-- as the layer's FnOk, but only where no repr is under way -/
structure FnG (P : Program) (w : World) (K : PySem.W.Frag) (mg : Str → Option Value) (base : Heap)
    (CX : CXT) (k : Nat) (f : Addr) (fd : FuncData) (ps : List Str) (sp : Sp) : Prop where
  ln : ∀ vs H Q E, sp vs H Q E → vs.length = ps.length
  go : ∀ (A : Around) (outer : List Env) (s : Shared) (H : Hp) (args : Args) (us : List Value)
    (vs : List V) (Q : VK) (E : XK), Room k A → A.guards = some [] → Env0 P w K mg base A outer s H →
    BindsTo s fd args (ps.zip us) → Vals vs us → sp vs H Q E →
    codeAny (model P w) A (.call (.ref f) args) (CR CX outer P w H s Q E) s

section
variable {P : Program} {w : World} {K : PySem.W.Frag} {mg : Str → Option Value} {base : Heap} {CX : CXT} {k : Nat}
  {f : Addr} {fd : FuncData} {ps : List Str} {sp : Sp}
theorem FnG.of (F : FnOk P w K mg base CX k f fd ps sp) : FnG P w K mg base CX k f fd ps sp :=
  ⟨F.len, fun A outer s H args us vs Q E hr _ he hb hv hs => F.run A outer s H args us vs Q E hr he hb hv hs⟩
theorem FnG.up {j : Nat} (F : FnG P w K mg base CX j f fd ps sp) (h : j ≤ k) : FnG P w K mg base CX k f fd ps sp :=
  ⟨F.ln, fun A outer s H args us vs Q E hr => F.go A outer s H args us vs Q E (hr.mono h)⟩

/-- a def by its body -/
theorem fg_of {name qual : Str} {params : Arguments} {body : List Stmt} {scope : Scope} {dV kV doc pm cdv ct oc : Value}
    {an od : Option Addr} {osl : Array (Option Value)} {N : List Str}
    (lk : K.lookup f = some ⟨oc, od, .func (PySem.W.fnOf name qual params body scope dV kV doc pm an cdv ct), osl⟩)
    (hcd : PySem.W.codeIn K cdv qual = true) (S : FnScope N ps scope)
    (ln : ∀ vs H Q E, sp vs H Q E → vs.length = ps.length)
    (hb : ∀ (A : Around) (outer : List Env) (s : Shared) (H : Hp) (vs : List V) (Q : VK) (E : XK),
      Room k (A.deeper (envOfC qual scope s.heap.objs.size f cdv)) →
      (A.deeper (envOfC qual scope s.heap.objs.size f cdv)).guards = some [] → sp vs H Q E →
      ∃ t, PSs (cxOf CX P w K mg base N qual scope f cdv A outer s H E) body t ∧
        t { nx := fun _ H' => Q .non H', rt := Q } (start N vs) H) :
    FnG P w K mg base CX (k + 1) f (PySem.W.fnOf name qual params body scope dV kV doc pm an cdv ct) ps sp := by
  refine ⟨ln, ?_⟩
  intro A outer s H args us vs Q E hr hg e0 hbd r hsp
  have hlen := ln _ _ _ _ hsp
  have inS : K.In s.heap := e0.mod.kin.keeps fun b o q => (e0.bs b o q).1
  have noL : s.heap.NoLimit := e0.mod.nolimit.keeps fun b o q => (e0.bs b o q).1
  have kinds : ∀ y ∈ ps.zip us, scope.names.lookup y.1 = some .local ∨
      (scope.names.lookup y.1 = some .cell ∧ ((cellsFrom (s.heap.objs.size + 1) scope.names []).lookup y.1).isSome = true) := by
    rintro ⟨n, v⟩ hy
    cases S.par n (List.of_mem_zip hy).1 with
    | inl q => exact .inl q
    | inr q => exact .inr ⟨q, PySem.W.cellsFrom_some _ _ _ (.inl q)⟩
  refine codeAny_call_function hr.depth (inS _ _ lk) rfl S.co S.gen rfl (PySem.W.codeRec_of inS hcd) (hbd _ _ _ _ ?_)
  refine wpAny_newFunctionEnv_cells S.kind kinds ?_
  intro env he s1 x
  subst he
  refine ⟨noL.keeps x.toInCall.keep, codeAny_func ?_⟩
  obtain ⟨t, ht, hq⟩ := hb A outer s H vs Q E (hr.deeper _) (guards_deep hg) hsp
  have I0 := inv_start (CX := CX) (E := E) S hr.hd e0 hlen r x
  refine wpAny_mono (ht.run [] s1 (start N vs) H _ I0 hq) ?_ (fun _ _ z => z)
  intro fl s' hs
  cases fl with
  | ret u => obtain ⟨v, σ', H', J, rv, q⟩ := hs; exact ⟨v, H', J.os, J.bare, J.base, J.hok, rv, q⟩
  | next => obtain ⟨σ', H', J, q⟩ := hs; exact ⟨V.non, H', J.os, J.bare, J.base, J.hok, rfl, q⟩
  | brk => obtain ⟨_, _, _, q⟩ := hs; exact q.elim
  | cont => obtain ⟨_, _, _, q⟩ := hs; exact q.elim

/-- a def that lets no exception out -/
theorem gbody {x qual : Str} {st : Stmt} {N : List Str} (F : Fun K x qual st f fd) (S : FnScope N ps (defScope st))
    (ln : ∀ vs H Q E, sp vs H Q E → vs.length = ps.length)
    (hb : ∀ (cdv : Value) (A : Around) (outer : List Env) (s : Shared) (H : Hp) (vs : List V) (Q : VK) (E : XK),
      Room k (A.deeper (envOfC qual (defScope st) s.heap.objs.size f cdv)) →
      (A.deeper (envOfC qual (defScope st) s.heap.objs.size f cdv)).guards = some [] → sp vs H Q E →
      ∃ t, PSs (cxOf CX0 P w K mg base N qual (defScope st) f cdv A outer s H E).nox (defBody st) t ∧
        t { nx := fun _ H' => Q .non H', rt := Q } (start N vs) H) : FnG P w K mg base CX0 (k + 1) f fd ps sp := by
  obtain ⟨oc, od, kV, doc, pm, an, cdv, ct, osl, rfl, lk, hcd⟩ := F.ex
  refine fg_of lk hcd S ln ?_
  intro A outer s H vs Q E hr hg hsp
  obtain ⟨t, h, q⟩ := hb cdv A outer s H vs Q E hr hg hsp
  exact ⟨t, PSs.nox h, q⟩
/-- a def that may raise -/
theorem gbodyX {x qual : Str} {st : Stmt} {N : List Str} {CY : CXT} (F : Fun K x qual st f fd) (S : FnScope N ps (defScope st))
    (ln : ∀ vs H Q E, sp vs H Q E → vs.length = ps.length)
    (hb : ∀ (cdv : Value) (A : Around) (outer : List Env) (s : Shared) (H : Hp) (vs : List V) (Q : VK) (E : XK),
      Room k (A.deeper (envOfC qual (defScope st) s.heap.objs.size f cdv)) →
      (A.deeper (envOfC qual (defScope st) s.heap.objs.size f cdv)).guards = some [] → sp vs H Q E →
      ∃ t, PSs (cxOf CY P w K mg base N qual (defScope st) f cdv A outer s H E) (defBody st) t ∧
        t { nx := fun _ H' => Q .non H', rt := Q } (start N vs) H) : FnG P w K mg base CY (k + 1) f fd ps sp := by
  obtain ⟨oc, od, kV, doc, pm, an, cdv, ct, osl, rfl, lk, hcd⟩ := F.ex
  exact fg_of lk hcd S ln fun A outer s H vs Q E hr hg hsp => hb cdv A outer s H vs Q E hr hg hsp
end

section
variable {X : Cx} {CX : CXT} {k : Nat} {f : Addr} {fd : FuncData} {ps ks : List Str} {sp : Sp} {dvs : List V} {ds : List Value}
  {E : XK} {x m : Str} {p pos apos : Pos} {e o : Expr} {es : List Expr} {kws : List Keyword} {ta : TE} {t tk : TA} {C : Addr}
/-- a callee's end, seen from the caller -/
theorem back {pins : List (Addr × Obj)} {σ : L2.St} {H : Hp} {s : Shared} {Q : VK} (hx : Passes CX X E) (I : Inv X pins σ H s)
    {r : Result} {s' : Shared} (hq : CR CX X.stack X.prog X.w H s Q E r s') :
    (match r with | .ok (.ret u) => EP X pins σ Q u s' | .ok _ => False | .error e => X.xe e s') := by
  cases r with
  | error e => exact hx pins σ H s e s' I hq
  | ok fl =>
    cases fl with
    | ret u => exact I.after hq
    | next => exact hq
    | brk => exact hq
    | cont => exact hq
theorem gcall {pins : List (Addr × Obj)} {σ : L2.St} {H : Hp} {s : Shared} {Q : VK} {args : Args} {us : List Value} {vs : List V}
    (F : FnG X.prog X.w X.K X.mg X.base CX k f fd ps sp) (hr : Room k X.A) (hg : X.A.guards = some [])
    (hb : BindsTo s fd args (ps.zip us)) (hx : Passes CX X E) (I : Inv X pins σ H s) (r : Vals vs us) (h : sp vs H Q E) :
    wpAny (model X.prog X.w) X.A (call (.ref f) args.pos args.kw) (EP X pins σ Q) X.xe s := by
  obtain ⟨ap, ak⟩ := args
  refine wpAny_call (codeAny_mono (F.go X.A X.stack s H ⟨ap, ak⟩ us vs Q E hr hg I.env0 hb r h) ?_)
  intro r s' hq
  have z := back hx I hq
  cases r with
  | error e => exact z
  | ok fl =>
    cases fl with
    | ret u => exact z
    | next => exact z.elim
    | brk => exact z.elim
    | cont => exact z.elim
theorem gcallP {pins : List (Addr × Obj)} {σ : L2.St} {H : Hp} {s : Shared} {Q : VK} {us : List Value} {vs : List V}
    (F : FnG X.prog X.w X.K X.mg X.base CX k f fd ps sp) (hr : Room k X.A) (hg : X.A.guards = some [])
    (hb : Binds X.K fd ps ds) (hd : Vals dvs ds) (hx : Passes CX X E) (I : Inv X pins σ H s) (r : Vals vs us)
    (h : sp (vs ++ dvs) H Q E) : wpAny (model X.prog X.w) X.A (call (.ref f) us) (EP X pins σ Q) X.xe s := by
  have r2 : Vals (vs ++ dvs) (us ++ ds) := r.append hd
  have hl : (us ++ ds).length = ps.length := by rw [← r2.length]; exact F.ln _ _ _ _ h
  exact gcall (args := ⟨us, []⟩) F hr hg (hb s us I.kIn hl) hx I r2 h

/-- f(e, ..) -/
theorem ge_call (F : FnG X.prog X.w X.K X.mg X.base CX k f fd ps sp) (hr : Room k X.A) (hg : X.A.guards = some []) (hG : Gl X x)
    (hm : X.mg x = some (.ref f)) (hk : PySem.W.keepIn X.K (.ref f) = true) (hb : Binds X.K fd ps ds) (hd : Vals dvs ds)
    (hx : Passes CX X E) (ha : PA X (e :: es) t) (hdb : (x == ("__debug__" : Str)) = false := by decide)
    (he : starEach (e :: es) X.env = (false, eval e X.env) :: starEach es X.env := by rfl)
    (hpl : (backTo pos (starEach es X.env)).any (·.1) = false := by rfl) :
    PE X (.Call (.Name x p) (e :: es) [] pos) (tCall sp dvs E t) := by
  constructor
  intro pins s σ H Q I h
  refine wpAny_Call_Name_kw (ld_glob I hG hm ?_ hdb)
  refine PySem.W.callWith_K (h₀ := X.base) I.ok.mod.kin hk (thn (ha.run pos pins s σ H _ I h) ?_) he hpl
  rintro us s1 ⟨vs, H1, I1, r, q⟩
  exact ⟨I1.kIn, gcallP F hr hg hb hd hx I1 r q⟩
theorem ge_call0 (F : FnG X.prog X.w X.K X.mg X.base CX k f fd ps sp) (hr : Room k X.A) (hg : X.A.guards = some []) (hG : Gl X x)
    (hm : X.mg x = some (.ref f)) (hk : PySem.W.keepIn X.K (.ref f) = true) (hb : Binds X.K fd ps ds) (hd : Vals dvs ds)
    (hx : Passes CX X E) (hdb : (x == ("__debug__" : Str)) = false := by decide) :
    PE X (.Call (.Name x p) [] [] pos) (tCall sp dvs E tNil) := by
  constructor
  intro pins s σ H Q I h
  exact wpAny_Call_Name_kw (ld_glob I hG hm (PySem.W.callWith_K0 I.kIn hk (gcallP (us := []) F hr hg hb hd hx I .nil h)) hdb)

variable {g : List Value → List Value → List Value} {gV : List V → List V → List V}
end

/-- keywords: n values by place, the named ones in the order ks; srcs says which of them (or which default) each parameter takes -/
structure KwB (K : PySem.W.Frag) (fd : FuncData) (ps : List Str) (n : Nat) (ks : List Str)
    (g : List Value → List Value → List Value) (gV : List V → List V → List V) : Prop where
  to : ∀ (s : Shared) (us ws : List Value), K.In s.heap → us.length = n → ws.length = ks.length → BindsTo s fd ⟨us, ks.zip ws⟩ (ps.zip (g us ws))
  rel : ∀ (vs zs : List V) (us ws : List Value), vs.length = n → zs.length = ks.length → Vals vs us → Vals zs ws → Vals (gV vs zs) (g us ws)
def tKw (n m : Nat) (sp : Sp) (gV : List V → List V → List V) (E : XK) (t tk : TA) : TE := fun σ H Q =>
  t σ H fun vs H1 => tk σ H1 fun zs H2 => vs.length = n ∧ zs.length = m ∧ sp (gV vs zs) H2 Q E
section
variable {X : Cx} {CX : CXT} {k n : Nat} {f : Addr} {fd : FuncData} {ps ks : List Str} {sp : Sp}
  {E : XK} {x : Str} {p pos : Pos} {e : Expr} {es : List Expr} {kws : List Keyword} {t tk : TA}
  {g : List Value → List Value → List Value} {gV : List V → List V → List V}
theorem ge_kw (F : FnG X.prog X.w X.K X.mg X.base CX k f fd ps sp) (hr : Room k X.A) (hg : X.A.guards = some []) (hG : Gl X x)
    (hm : X.mg x = some (.ref f)) (hk : PySem.W.keepIn X.K (.ref f) = true) (hb : KwB X.K fd ps n ks g gV) (hx : Passes CX X E)
    (ha : PA X (e :: es) t) (hkw : PK X kws tk) (hall : (backToKw pos (keywordEach kws X.env)).all (·.1.isSome) = true := by rfl)
    (hks : (backToKw pos (keywordEach kws X.env)).filterMap (·.1) = ks := by rfl)
    (hdb : (x == ("__debug__" : Str)) = false := by decide)
    (he : starEach (e :: es) X.env = (false, eval e X.env) :: starEach es X.env := by rfl)
    (hpl : ((backTo pos (starEach (e :: es) X.env)).any (·.1) || (backToKw pos (keywordEach kws X.env)).any (·.1.isNone)) = false := by rfl) :
    PE X (.Call (.Name x p) (e :: es) kws pos) (tKw n ks.length sp gV E t tk) := by
  constructor
  intro pins s σ H Q I h
  refine wpAny_Call_Name_kw (ld_glob I hG hm ?_ hdb)
  refine PySem.W.callWith_KW (h₀ := X.base) I.ok.mod.kin hk hall (thn (ha.run pos pins s σ H _ I h) ?_) hpl he
  rintro us s1 ⟨vs, H1, I1, r, q⟩
  refine thn (hkw.run pos pins s1 σ H1 _ I1 q) ?_
  rintro ws s2 ⟨zs, H2, I2, rz, l1, l2, q2⟩
  refine ⟨I2.kIn, ?_⟩
  rw [hks]
  exact gcall (args := ⟨us, ks.zip ws⟩) F hr hg (hb.to s2 us ws I2.kIn (by rw [← r.length]; exact l1) (by rw [← rz.length]; exact l2)) hx I2 (hb.rel vs zs us ws l1 l2 r rz) q2
end

/-! ### a def of the top as its callers see it -/
structure Callee (P : Program) (w : World) (K : PySem.W.Frag) (mg : Str → Option Value) (base : Heap)
    (CX : CXT) (k : Nat) (x : Str) (st : Stmt) (ps : List Str) (sp : Sp) : Prop where
  ex : ∃ (f : Addr) (fd : FuncData), mg x = some (.ref f) ∧ Fun K x x st f fd ∧ Binds K fd ps [] ∧ FnG P w K mg base CX k f fd ps sp
section
variable {X : Cx} {CX : CXT} {j k n : Nat} {ps ks : List Str} {sp : Sp} {st : Stmt}
  {E : XK} {x : Str} {p pos : Pos} {e : Expr} {es : List Expr} {kws : List Keyword} {t tk : TA}
  {g : List Value → List Value → List Value} {gV : List V → List V → List V}
theorem Callee.call (C : Callee X.prog X.w X.K X.mg X.base CX0 k x st ps sp) (hG : Gl X x) (hr : Room j X.A) (hg : X.A.guards = some [])
    (ha : PA X (e :: es) t) (hj : k ≤ j := by decide) (hdb : (x == ("__debug__" : Str)) = false := by decide)
    (he : starEach (e :: es) X.env = (false, eval e X.env) :: starEach es X.env := by rfl)
    (hpl : (backTo pos (starEach es X.env)).any (·.1) = false := by rfl) :
    PE X (.Call (.Name x p) (e :: es) [] pos) (tCall sp [] E0 t) := by
  obtain ⟨f, fd, hm, F, b, G⟩ := C.ex
  exact ge_call G (hr.mono hj) hg hG hm F.kp b .nil pass0 ha hdb he hpl
theorem Callee.call0 (C : Callee X.prog X.w X.K X.mg X.base CX0 k x st ps sp) (hG : Gl X x) (hr : Room j X.A) (hg : X.A.guards = some [])
    (hj : k ≤ j := by decide) (hdb : (x == ("__debug__" : Str)) = false := by decide) :
    PE X (.Call (.Name x p) [] [] pos) (tCall sp [] E0 tNil) := by
  obtain ⟨f, fd, hm, F, b, G⟩ := C.ex
  exact ge_call0 G (hr.mono hj) hg hG hm F.kp b .nil pass0 hdb
theorem Callee.kw (C : Callee X.prog X.w X.K X.mg X.base CX0 k x st ps sp)
    (hb : ∀ (f : Addr) (fd : FuncData), Fun X.K x x st f fd → KwB X.K fd ps n ks g gV) (hG : Gl X x) (hr : Room j X.A) (hg : X.A.guards = some [])
    (ha : PA X (e :: es) t) (hkw : PK X kws tk) (hj : k ≤ j := by decide)
    (hall : (backToKw pos (keywordEach kws X.env)).all (·.1.isSome) = true := by rfl)
    (hks : (backToKw pos (keywordEach kws X.env)).filterMap (·.1) = ks := by rfl)
    (hdb : (x == ("__debug__" : Str)) = false := by decide)
    (he : starEach (e :: es) X.env = (false, eval e X.env) :: starEach es X.env := by rfl)
    (hpl : ((backTo pos (starEach (e :: es) X.env)).any (·.1) || (backToKw pos (keywordEach kws X.env)).any (·.1.isNone)) = false := by rfl) :
    PE X (.Call (.Name x p) (e :: es) kws pos) (tKw n ks.length sp gV E0 t tk) := by
  obtain ⟨f, fd, hm, F, b, G⟩ := C.ex
  exact ge_kw G (hr.mono hj) hg hG hm F.kp (hb f fd F) pass0 ha hkw hall hks hdb he hpl
end

/-! ### the law's own call -/
theorem enter_law {P : Program} {w : World} {K : PySem.W.Frag} {mg mb : Str → Option Value} {CX : CXT} {k : Nat} {fa a : Addr} {fd : FuncData}
    {x : Str} {sp : Sp} {s₁ : Shared} {vs : List Value} {ns : List Int}
    (KX : K.In s₁.heap) (hns : s₁.heap.Ns mainGlobals mg) (hb : s₁.heap.Ns builtinsNs mb)
    (hbb : ∀ x : Str, x ≠ "__name__" → mb x = bootBuiltins x) (hlim : s₁.heap.NoLimit) (hg : s₁.gens = #[])
    (ha : s₁.heap.get? a = some { cls := .type "list", data := .seq vs.toArray }) (hi : IntsAre vs ns) (hl : ns.length ≤ sizeLine) (hr : Room k callerA)
    (F : ∀ base : Heap, K.In base → base.Ns mainGlobals mg → FnG P w K mg base CX k fa fd [x] sp)
    (hbind : ∀ (s : Shared) (u : Value), BindsTo s fd ⟨[u], []⟩ [(x, u)])
    (hsp : ∀ H : Hp, Only H → SqL K H a (ns.map V.int) → sp [.ref a] H (fun v _ => v = .bl true) fun _ _ _ => False)
    (hCX : ∀ H e s', CX [] H s₁ (fun _ _ _ => False) e s' → False) :
    codeAny (model P w) callerA (.call (.ref fa) ⟨[.ref a], []⟩)
      (fun r s' => r = .ok (.ret (.bool true)) ∧ OldK s₁.heap s'.heap ∧ s'.os = s₁.os ∧ AllBare s'.gens) s₁ := by
  have rv := vals_ints hi
  have lv := hi.length
  suffices core : ∀ H : Hp, Only H → SqL K H a (ns.map V.int) → HOk P w H s₁.heap → (∀ b, H b ≠ none → b = a) → (H a ≠ none → K.lookup a = none) →
      codeAny (model P w) callerA (.call (.ref fa) ⟨[.ref a], []⟩)
        (fun r s' => r = .ok (.ret (.bool true)) ∧ OldK s₁.heap s'.heap ∧ s'.os = s₁.os ∧ AllBare s'.gens) s₁ by
    cases hk : K.lookup a with
    | some o =>
      have e := KX a o hk
      rw [ha] at e
      obtain rfl := Option.some.inj e
      have nothing : ∀ b : Addr, ¬ ((fun _ => none : Hp) b ≠ none) := fun b z => z rfl
      refine core (fun _ => none) (fun _ => .inl rfl) ?_ ?_ (fun b z => (nothing b z).elim) fun z => (nothing a z).elim
      · exact .inr ⟨_, vs.toArray, _, hk, rfl, rfl, rfl, by rw [List.size_toArray, lv]; exact hl, by simpa using rv⟩
      · intro b u z
        cases (show (none : Option HO) = some u from z)
    | none =>
      have at_a : ∀ {b : Addr} {u : HO}, (if b = a then some (HO.frz { cls := .type "list", data := .seq vs.toArray } (.lst (ns.map V.int))) else none) = some u →
          b = a ∧ u = HO.frz { cls := .type "list", data := .seq vs.toArray } (.lst (ns.map V.int)) := by
        intro b u z
        by_cases q : b = a
        · rw [if_pos q] at z; exact ⟨q, (Option.some.inj z).symm⟩
        · rw [if_neg q] at z; cases z
      refine core (fun b => if b = a then some (.frz { cls := .type "list", data := .seq vs.toArray } (.lst (ns.map V.int))) else none) ?_
        (.inl (.inr ⟨{ cls := .type "list", data := .seq vs.toArray }, if_pos rfl⟩)) ?_ ?_ fun _ => hk
      · intro b
        by_cases q : b = a
        · exact .inr ⟨_, _, if_pos q⟩
        · exact .inl (if_neg q)
      · intro b u z
        obtain ⟨rfl, rfl⟩ := at_a z
        exact ⟨ha, by rw [List.length_map]; exact hl, vs, _, rv, ha⟩
      · intro b z
        by_cases q : b = a
        · exact q
        · exact (z (if_neg q)).elim
  intro H hO hS hok hA hK
  have notDict : ∀ {b : Addr} {o : Obj} {es : Array DictEntry} {ep : Nat}, s₁.heap.get? b = some o → o.data = .dict es ep → H b = none := by
    intro b o es ep e d
    cases q : H b with
    | none => rfl
    | some u =>
      obtain rfl : b = a := hA b (by rw [q]; simp)
      rw [ha] at e
      obtain rfl := Option.some.inj e
      cases (show Data.seq vs.toArray _ = Data.dict es ep from d)
  have nsK : ∀ {b : Addr} {m : Str → Option Value}, s₁.heap.Ns b m → (hidT s₁.heap H).Ns b m := by
    rintro b m ⟨o, es, ep, e, d, r⟩
    exact ⟨o, es, ep, hidT_get e (notDict e d), d, r⟩
  have inB : K.In (hidT s₁.heap H) := by
    intro b o e
    refine hidT_get (KX b o e) ?_
    cases q : H b with
    | none => rfl
    | some u =>
      obtain rfl : b = a := hA b (by rw [q]; simp)
      rw [hK (by rw [q]; simp)] at e
      cases e
  obtain ⟨mc, lim1, lim2⟩ := hlim
  have hM : Mod K mg (hidT s₁.heap H) := ⟨inB, nsK hns, ⟨mb, nsK hb, hbb⟩, mc, nsK lim1, lim2⟩
  have e0 : Env0 P w K mg (hidT s₁.heap H) callerA [] s₁ H :=
    ⟨rfl, hM, fun b o e => of_hidT e, Nat.le_of_eq (hidT_size _ _), trivial, fun b hb => absurd (show b ∈ ([] : List Addr) from hb) (by simp), hok, .of_eq hg⟩
  refine codeAny_mono ((F _ inB (nsK hns)).go callerA [] s₁ H ⟨[.ref a], []⟩ [.ref a] [.ref a] _ _ hr rfl e0 (hbind s₁ (.ref a)) (.cons rfl .nil) (hsp H hO hS)) ?_
  intro r s' h
  cases r with
  | error e => exact (hCX H e s' h).elim
  | ok fl =>
    cases fl with
    | next => exact False.elim h
    | brk => exact False.elim h
    | cont => exact False.elim h
    | ret u =>
      obtain ⟨v, H', os, bare, un, hok', r', q⟩ := h
      obtain rfl : v = .bl true := q
      obtain rfl : u = Value.bool true := r'
      refine ⟨rfl, OldK.of_keep ?_, os, bare⟩
      intro b o e
      cases q : H b with
      | none => exact un.keep b o e q (by intro z; exact absurd (show b ∈ ([] : List Addr) from z) (by simp)) (by simp)
      | some u =>
        rcases hO b with z | ⟨ob, xs, z⟩
        · rw [q] at z; cases z
        · obtain ⟨e1, _⟩ := hok b _ z
          obtain ⟨e2, _⟩ := hok' b _ (un.frzs b ob _ z)
          rw [e] at e1
          cases e1
          exact e2

/-! ### t[::-1] of a tuple -/
section
variable {prog : Program} {w : World} {A : Around} {E : Value → Shared → Prop} {s : Shared}
end
section
variable {X : Cx}
def tRevT (K : PySem.W.Frag) (te : TE) : TE := fun σ H Q => te σ H fun x H1 =>
  ∃ a xs, x = .ref a ∧ SqT K H1 a xs ∧ ∀ p, H1 p = none → Q (.ref p) (upd H1 p (.tup xs.reverse))
end

/-! ### heaps: all but some objects stay -/
def But (l : List Addr) (H H' : Hp) : Prop := ∀ b o, b ∉ l → H b = some o → H' b = some o
theorem But.refl (l : List Addr) (H : Hp) : But l H H := fun _ _ _ h => h
theorem But.trans {l : List Addr} {H H1 H2 : Hp} (a : But l H H1) (b : But l H1 H2) : But l H H2 := fun c o n h => b c o n (a c o n h)
theorem But.mono {l m : List Addr} {H H1 : Hp} (a : But l H H1) (h : ∀ b ∈ l, b ∈ m) : But m H H1 := fun c o n e => a c o (fun z => n (h c z)) e
theorem But.of {H H1 : Hp} (l : List Addr) (a : Same H H1) : But l H H1 := fun c o _ h => a c o h
theorem But.nil {H H1 : Hp} (a : But [] H H1) : Same H H1 := fun c o h => a c o (by simp) h
theorem But.new {l : List Addr} {H H1 : Hp} {p : Addr} {o : HO} (a : But l H H1) (h : H1 p = none) : But l H (upd H1 p o) := fun c u n e => by
  have q := a c u n e
  rw [upd_ne (ne_of_none q h)]; exact q
theorem But.set {l : List Addr} {H H1 : Hp} {p : Addr} {o : HO} (a : But l H H1) (h : p ∈ l) : But l H (upd H1 p o) := fun c u n e => by
  have q : c ≠ p := fun z => n (by rw [z]; exact h)
  rw [upd_ne q]; exact a c u n e
theorem But.fresh {l : List Addr} {H H1 : Hp} {p : Addr} (a : But l H H1) (h : H1 p = none) (n : p ∉ l) : H p = none := by
  cases q : H p with
  | none => rfl
  | some o => rw [a p o n q] at h; cases h
theorem same_new {H : Hp} {p : Addr} {o : HO} (h : H p = none) : Same H (upd H p o) := fun c u e => by rw [upd_ne (ne_of_none e h)]; exact e
theorem But.sq {l : List Addr} {K : PySem.W.Frag} {H H' : Hp} {a : Addr} {xs : List V} (e : But l H H') (n : a ∉ l) (h : SqL K H a xs) : SqL K H' a xs := by
  rcases h with (h | ⟨o, h⟩) | h
  · exact .inl (.inl (e _ _ n h))
  · exact .inl (.inr ⟨o, e _ _ n h⟩)
  · exact .inr h
theorem But.get {l : List Addr} {H H' : Hp} {a : Addr} {o : HO} (e : But l H H') (n : a ∉ l) (h : H a = some o) : H' a = some o := e a o n h
/-- where a test is decided -/
theorem iteD {p A B : Prop} [Decidable p] (h1 : p → A) (h2 : ¬ p → B) : if decide p = true then A else B := by
  by_cases h : p
  · rw [if_pos (decide_eq_true h)]; exact h1 h
  · rw [if_neg (by rw [decide_eq_false h]; exact Bool.false_ne_true)]; exact h2 h
theorem iteDT {p A B : Prop} [Decidable p] (hp : p) (h1 : A) : if decide p = true then A else B := by rw [if_pos (decide_eq_true hp)]; exact h1
theorem iteNF {p A B : Prop} [Decidable p] (hp : p) (h1 : B) : if (!decide p) = true then A else B := by rw [decide_eq_true hp]; exact iteF h1
theorem iteNT {p A B : Prop} [Decidable p] (hp : ¬ p) (h1 : A) : if (!decide p) = true then A else B := by rw [decide_eq_false hp]; exact iteT h1
theorem get_lt {α : Type} {l : List α} {i : Nat} {x : α} (h : l[i]? = some x) : i < l.length := (List.getElem?_eq_some_iff.mp h).1
theorem atI_mem {α : Type} {xs : List α} {i : Int} (h0 : 0 ≤ i) (h1 : i < xs.length) : ∃ v, atI xs i = some v ∧ v ∈ xs := by
  have e : i = ((i.toNat : Nat) : Int) := by omega
  have hl : i.toNat < xs.length := by omega
  refine ⟨xs[i.toNat], ?_, List.getElem_mem hl⟩
  have q := atI_nat (List.getElem?_eq_getElem hl)
  rw [← e] at q
  exact q
theorem But.to {l : List Addr} {H H1 : Hp} {p : Addr} {o : HO} (a : But l H H1) (h : H p = none) : But l H (upd H1 p o) := fun c u n e => by
  rw [upd_ne (ne_of_none e h)]; exact a c u n e
theorem same_to {H H1 : Hp} {p : Addr} {o : HO} (a : Same H H1) (h : H p = none) : Same H (upd H1 p o) := fun c u e => by
  rw [upd_ne (ne_of_none e h)]; exact a c u e
theorem take_snoc {α : Type} {l : List α} {i : Nat} {x : α} (h : l[i]? = some x) : l.take (i + 1) = l.take i ++ [x] := by
  have hi := get_lt h
  rw [List.getElem?_eq_getElem hi] at h
  rw [← Option.some.inj h]
  exact (List.take_append_getElem hi).symm
theorem shown_small {d : PyData} (h : d.leavesShort 2000 = true) (hb : d.bulk ≤ 8000) : d.shown.length ≤ sizeLine := by
  have q := PyData.shown_le_bulk 2000 (by decide) d h
  have e : (2000 + 2) * d.bulk ≤ 2002 * 8000 := Nat.mul_le_mul_left 2002 hb
  rw [sizeLine_eq]
  omega
theorem int_short {i : Int} (h : i.natAbs.log2 < 1920) : (PyData.int i).leavesShort 2000 = true := by
  simp only [PyData.leavesShort, decide_eq_true_eq]
  exact Nat.le_trans (PyProof.Rows.int_text_len_1921 h) (by decide)
theorem log_small {i : Int} {k : Nat} (h : i.natAbs < 2 ^ k) (h0 : 0 < k) (hk : k ≤ 1920) : i.natAbs.log2 < 1920 := Nat.lt_of_lt_of_le (PySem.Flt.log2_lt_of h0 h) hk
theorem room150 {k : Nat} {A : Around} (r : Room k A) : A.units + 150 < cLine := by have := r.un; omega
/-! ### within a comprehension's block -/
section
variable {X : Cx} {s : Shared} {H : Hp} {sc : Scope} {env : Env} {fp : List Addr}
end
/-! ### cuts: what is known in the middle -/
section
variable {X : Cx} {e : Expr} {st : Stmt} {sts : List Stmt} {t : TE} {u : TS}
def eCut (t : TE) : TE := fun σ H Q => ∃ R : VK, t σ H R ∧ ∀ v H', R v H' → Q v H'
def sCut (t : TS) : TS := fun D σ H => ∃ R : L2.St → Hp → Prop, t { D with nx := R } σ H ∧ ∀ σ' H', R σ' H' → D.nx σ' H'
end
/-- what a reading step does not look into -/
structure Box (p : Prop) : Prop where
  t : True
  out : p
theorem Box.of {p : Prop} (h : p) : Box p := ⟨trivial, h⟩
/-! ### repr of data -/
section
variable {X : Cx}
theorem call_repr_data (hg : X.A.guards = some []) (hu : X.A.units + 150 < cLine) : CallR X (.builtin "repr") (fun xs H Q =>
    ∃ a d, xs = [.ref a] ∧ Dp X.K H (.ref a) d ∧ d.showable = true ∧ SeqAt.shaped d = true ∧ d.shown.length ≤ sizeLine ∧ Q (.str d.shown) H) := by
  intro pins s σ H xs us Q I r h
  obtain ⟨a, d, rfl, hd, hs, hsh, hz, q⟩ := h
  obtain ⟨u, rfl, ru⟩ := vals1 r
  obtain rfl : u = Value.ref a := ru
  obtain ⟨as, rd⟩ := Dp.reads I d (.ref a) (.ref a) hd rfl
  have hnd : d.hasDict = true → sysModules ∉ as := PyData.noDict_hsm (PyData.hasDict_of_canLay d (SeqAt.canLay_of_shaped hsh))
  have hdp := SeqAt.depth_of_shaped hsh
  refine repr_of_reads' rd hs hnd hg (by omega) (fun _ _ q => q) (fun h' u tk hk => ?_) hz
  exact ⟨.str _, H, I.kept hk, ⟨_, rfl⟩, q⟩
end
end Lay

set_option Elab.async false
set_option linter.all false
set_option maxRecDepth 100000
set_option maxHeartbeats 2000000
namespace Lay
open PySem PySem.Spec PyProof.Rows L2

/-! ### methods -/
structure Method (P : Program) (w : World) (K : PySem.W.Frag) (mg : Str → Option Value) (base : Heap)
    (CX : CXT) (k : Nat) (C : Addr) (m : Str) (D : Addr → FuncData → Prop) (ps : List Str) (sp : Sp) : Prop where
  ex : ∃ (f : Addr) (fd : FuncData), Cls K C ∧ Meth K C m f ∧ D f fd ∧ Binds K fd ps [] ∧ FnG P w K mg base CX k f fd ps sp
/-- x = C(..) as its callers see it -/
structure Maker (P : Program) (w : World) (K : PySem.W.Frag) (mg : Str → Option Value) (base : Heap)
    (CX : CXT) (k : Nat) (x : Str) (C : Addr) (D : Addr → FuncData → Prop) (ps : List Str) (sp : Sp) : Prop where
  ex : ∃ (f : Addr) (fd : FuncData), mg x = some (.ref C) ∧ Mk K C f ∧ D f fd ∧ Binds K fd ps [] ∧ FnG P w K mg base CX k f fd ps sp
def tMethE (C : Addr) (m : Str) (sp : Sp) (E : L2.St → XK) (ta : TE) (t : TA) : TE := fun σ H Q => ta σ H fun x H1 =>
  ∃ a dx fs, x = .ref a ∧ H1 a = some (.ins C dx fs) ∧ fs.lookup m = none ∧ t σ H1 fun vs H2 => sp (x :: vs) H2 Q (E σ)
def tMethKw (C : Addr) (m : Str) (n mm : Nat) (sp : Sp) (gV : List V → List V → List V) (E : L2.St → XK) (ta : TE) (t tk : TA) : TE := fun σ H Q => ta σ H fun x H1 =>
  ∃ a dx fs, x = .ref a ∧ H1 a = some (.ins C dx fs) ∧ fs.lookup m = none ∧ t σ H1 fun vs H2 => tk σ H2 fun zs H3 => vs.length = n ∧ zs.length = mm ∧ sp (gV (x :: vs) zs) H3 Q (E σ)
def tMakeE (C : Addr) (sp : Sp) (E : L2.St → XK) (t : TA) : TE := fun σ H Q => t σ H fun vs H1 => ∀ x dx, H1 x = none → H1 dx = none → dx ≠ x →
  sp (.ref x :: vs) (upd (upd H1 dx (.own x)) x (.ins C dx [])) (fun v H2 => v = .non ∧ Q (.ref x) H2) (E σ)
def tMakeKw (C : Addr) (n m : Nat) (sp : Sp) (gV : List V → List V → List V) (E : L2.St → XK) (t tk : TA) : TE := fun σ H Q =>
  t σ H fun vs H1 => tk σ H1 fun zs H2 => vs.length = n ∧ zs.length = m ∧ ∀ x dx, H2 x = none → H2 dx = none → dx ≠ x →
    sp (gV (.ref x :: vs) zs) (upd (upd H2 dx (.own x)) x (.ins C dx [])) (fun v H3 => v = .non ∧ Q (.ref x) H3) (E σ)

section
variable {X : Cx} {CX : CXT} {j k n : Nat} {C : Addr} {m x : Str} {D : Addr → FuncData → Prop} {ps ks : List Str} {sp : Sp} {E : L2.St → XK} {o e : Expr} {es : List Expr}
  {kws : List Keyword} {ta : TE} {t tk : TA} {apos pos p : Pos} {pl : Sem Bool} {f : Addr} {fd : FuncData}
  {g : List Value → List Value → List Value} {gV : List V → List V → List V}
theorem backS {pins : List (Addr × Obj)} {σ : L2.St} {H : Hp} {s : Shared} {Q : VK} {E : XK} (hx : PassesAt CX X σ E) (I : Inv X pins σ H s)
    {r : Result} {s' : Shared} (hq : CR CX X.stack X.prog X.w H s Q E r s') :
    (match r with | .ok (.ret u) => EP X pins σ Q u s' | .ok _ => False | .error e => X.xe e s') := by
  cases r with
  | error e => exact hx pins H s e s' I hq
  | ok fl =>
    cases fl with
    | ret u => exact I.after hq
    | next => exact hq
    | brk => exact hq
    | cont => exact hq
theorem gcallS {pins : List (Addr × Obj)} {σ : L2.St} {H : Hp} {s : Shared} {Q : VK} {E : XK} {args : Args} {us : List Value} {vs : List V}
    (F : FnG X.prog X.w X.K X.mg X.base CX k f fd ps sp) (hr : Room k X.A) (hg : X.A.guards = some [])
    (hb : BindsTo s fd args (ps.zip us)) (hx : PassesAt CX X σ E) (I : Inv X pins σ H s) (r : Vals vs us) (h : sp vs H Q E) :
    wpAny (model X.prog X.w) X.A (call (.ref f) args.pos args.kw) (EP X pins σ Q) X.xe s := by
  obtain ⟨ap, ak⟩ := args
  refine wpAny_call (codeAny_mono (F.go X.A X.stack s H ⟨ap, ak⟩ us vs Q E hr hg I.env0 hb r h) ?_)
  intro r s' hq
  have z := backS hx I hq
  cases r with
  | error e => exact z
  | ok fl =>
    cases fl with
    | ret u => exact z
    | next => exact z.elim
    | brk => exact z.elim
    | cont => exact z.elim
theorem atAll {E : XK} (h : Passes CX X E) (σ : L2.St) : PassesAt CX X σ E := fun pins H s e s' I c => h pins σ H s e s' I c

/-- o.m(e, ..) -/
theorem Method.methE (M : Method X.prog X.w X.K X.mg X.base CX k C m D ps sp) (he : PE X o ta) (hr : Room j X.A) (hg : X.A.guards = some [])
    (hx : ∀ σ, PassesAt CX X σ (E σ)) (ha : PA X (e :: es) t) (hj : k ≤ j := by decide)
    (hst : starEach (e :: es) X.env = (false, eval e X.env) :: starEach es X.env := by rfl) (hpl : (backTo pos (starEach es X.env)).any (·.1) = false := by rfl)
    (ht : eval (.Call (.Attribute o m apos) (e :: es) [] pos) X.env = (do
      let ov ← eval o X.env
      standAt apos.atName
      let (f, first) ← holding [ov] (getMethod ov m pl)
      callWith pos f first (backTo pos (starEach (e :: es) X.env)) (backToKw pos (keywordEach [] X.env))) := by rfl) :
    PE X (.Call (.Attribute o m apos) (e :: es) [] pos) (tMethE C m sp E ta t) := by
  obtain ⟨f, fd, c, hm, F, b, G⟩ := M.ex
  constructor
  intro pins s σ H Q I h
  refine PySem.W.methodCall_KW (pl := pl) (thn (he.run pins s σ H _ I h) ?_) ht
  rintro u s1 ⟨x, H1, I1, rx, a, dx, fs, rfl, ea, l, z⟩
  obtain rfl : u = Value.ref a := rx
  refine getmeth_ok I1 ea c hm l ?_
  refine PySem.W.callWith_K (first := [.ref a]) (h₀ := X.base) I.ok.mod.kin hm.kp (thn (ha.run pos pins s1 σ H1 _ I1 z) ?_) hst hpl
  rintro us s2 ⟨vs, H2, I2, r, z2⟩
  refine ⟨I2.kIn, ?_⟩
  have r2 : Vals (V.ref a :: vs) (Value.ref a :: us) := .cons rfl r
  have hl : (Value.ref a :: us).length = ps.length := by rw [← r2.length]; exact G.ln _ _ _ _ z2
  have bb := b s2 (.ref a :: us) I2.kIn (by rw [List.append_nil]; exact hl)
  rw [List.append_nil] at bb
  exact gcallS (args := ⟨.ref a :: us, []⟩) G (hr.mono hj) hg bb (hx σ) I2 r2 z2
/-- o.m() -/
theorem Method.methE0 (M : Method X.prog X.w X.K X.mg X.base CX k C m D ps sp) (he : PE X o ta) (hr : Room j X.A) (hg : X.A.guards = some [])
    (hx : ∀ σ, PassesAt CX X σ (E σ)) (hj : k ≤ j := by decide)
    (ht : eval (.Call (.Attribute o m apos) [] [] pos) X.env = (do
      let ov ← eval o X.env
      standAt apos.atName
      let (f, first) ← holding [ov] (getMethod ov m pl)
      callWith pos f first (backTo pos (starEach [] X.env)) (backToKw pos (keywordEach [] X.env))) := by rfl) :
    PE X (.Call (.Attribute o m apos) [] [] pos) (tMethE C m sp E ta tNil) := by
  obtain ⟨f, fd, c, hm, F, b, G⟩ := M.ex
  constructor
  intro pins s σ H Q I h
  refine PySem.W.methodCall_KW (pl := pl) (thn (he.run pins s σ H _ I h) ?_) ht
  rintro u s1 ⟨x, H1, I1, rx, a, dx, fs, rfl, ea, l, z⟩
  obtain rfl : u = Value.ref a := rx
  refine getmeth_ok I1 ea c hm l ?_
  have r2 : Vals [V.ref a] [Value.ref a] := .cons rfl .nil
  have hl : [Value.ref a].length = ps.length := by rw [← r2.length]; exact G.ln _ _ _ _ z
  have bb := b s1 [.ref a] I1.kIn (by rw [List.append_nil]; exact hl)
  rw [List.append_nil] at bb
  exact PySem.W.callWith_K0 (first := [.ref a]) I1.kIn hm.kp (gcallS (args := ⟨[.ref a], []⟩) G (hr.mono hj) hg bb (hx σ) I1 r2 z)
theorem Method.meth (M : Method X.prog X.w X.K X.mg X.base CX0 k C m D ps sp) (he : PE X o ta) (hr : Room j X.A) (hg : X.A.guards = some [])
    (ha : PA X (e :: es) t) (hj : k ≤ j := by decide)
    (hst : starEach (e :: es) X.env = (false, eval e X.env) :: starEach es X.env := by rfl) (hpl : (backTo pos (starEach es X.env)).any (·.1) = false := by rfl)
    (ht : eval (.Call (.Attribute o m apos) (e :: es) [] pos) X.env = (do
      let ov ← eval o X.env
      standAt apos.atName
      let (f, first) ← holding [ov] (getMethod ov m pl)
      callWith pos f first (backTo pos (starEach (e :: es) X.env)) (backToKw pos (keywordEach [] X.env))) := by rfl) :
    PE X (.Call (.Attribute o m apos) (e :: es) [] pos) (tMethE C m sp (fun _ => E0) ta t) := M.methE he hr hg (atAll pass0) ha hj hst hpl ht
theorem Method.meth0 (M : Method X.prog X.w X.K X.mg X.base CX0 k C m D ps sp) (he : PE X o ta) (hr : Room j X.A) (hg : X.A.guards = some [])
    (hj : k ≤ j := by decide)
    (ht : eval (.Call (.Attribute o m apos) [] [] pos) X.env = (do
      let ov ← eval o X.env
      standAt apos.atName
      let (f, first) ← holding [ov] (getMethod ov m pl)
      callWith pos f first (backTo pos (starEach [] X.env)) (backToKw pos (keywordEach [] X.env))) := by rfl) :
    PE X (.Call (.Attribute o m apos) [] [] pos) (tMethE C m sp (fun _ => E0) ta tNil) := M.methE0 he hr hg (atAll pass0) hj ht
/-- o.m(e, .., k = v, ..) -/
theorem Method.methKw (M : Method X.prog X.w X.K X.mg X.base CX k C m D ps sp)
    (hb : ∀ (f : Addr) (fd : FuncData), D f fd → KwB X.K fd ps (n + 1) ks g gV) (he : PE X o ta) (hr : Room j X.A) (hg : X.A.guards = some [])
    (hx : ∀ σ, PassesAt CX X σ (E σ)) (ha : PA X (e :: es) t) (hkw : PK X kws tk) (hj : k ≤ j := by decide)
    (hall : (backToKw pos (keywordEach kws X.env)).all (·.1.isSome) = true := by rfl)
    (hks : (backToKw pos (keywordEach kws X.env)).filterMap (·.1) = ks := by rfl)
    (hst : starEach (e :: es) X.env = (false, eval e X.env) :: starEach es X.env := by rfl)
    (hpl : ((backTo pos (starEach (e :: es) X.env)).any (·.1) || (backToKw pos (keywordEach kws X.env)).any (·.1.isNone)) = false := by rfl)
    (ht : eval (.Call (.Attribute o m apos) (e :: es) kws pos) X.env = (do
      let ov ← eval o X.env
      standAt apos.atName
      let (f, first) ← holding [ov] (getMethod ov m pl)
      callWith pos f first (backTo pos (starEach (e :: es) X.env)) (backToKw pos (keywordEach kws X.env))) := by rfl) :
    PE X (.Call (.Attribute o m apos) (e :: es) kws pos) (tMethKw C m n ks.length sp gV E ta t tk) := by
  obtain ⟨f, fd, c, hm, F, b, G⟩ := M.ex
  constructor
  intro pins s σ H Q I h
  refine PySem.W.methodCall_KW (pl := pl) (thn (he.run pins s σ H _ I h) ?_) ht
  rintro u s1 ⟨x, H1, I1, rx, a, dx, fs, rfl, ea, l, z⟩
  obtain rfl : u = Value.ref a := rx
  refine getmeth_ok I1 ea c hm l ?_
  refine PySem.W.callWith_KW (first := [.ref a]) (h₀ := X.base) I.ok.mod.kin hm.kp hall (thn (ha.run pos pins s1 σ H1 _ I1 z) ?_) hpl hst
  rintro us s2 ⟨vs, H2, I2, r, z2⟩
  refine thn (hkw.run pos pins s2 σ H2 _ I2 z2) ?_
  rintro ws s3 ⟨zs, H3, I3, rz, l1, l2, q2⟩
  refine ⟨I3.kIn, ?_⟩
  rw [hks]
  have kb := hb f fd F
  exact gcallS (args := ⟨.ref a :: us, ks.zip ws⟩) G (hr.mono hj) hg (kb.to s3 (.ref a :: us) ws I3.kIn (by rw [List.length_cons, ← r.length, l1]) (by rw [← rz.length]; exact l2)) (hx σ) I3
    (kb.rel (.ref a :: vs) zs (.ref a :: us) ws (by rw [List.length_cons, l1]) l2 (.cons rfl r) rz) q2

/-- C(e, ..) -/
theorem gmake {pins : List (Addr × Obj)} {σ : L2.St} {H : Hp} {s : Shared} {Q : VK} {E : XK} {us : List Value} {kw : List (Str × Value)} {vs : List V} {wz : Value → List Value} {vz : V → List V}
    (M : Mk X.K C f) (F : FnG X.prog X.w X.K X.mg X.base CX k f fd ps sp) (hr : Room (k + 1) X.A) (hg : X.A.guards = some [])
    (hb : ∀ (s : Shared) (a : Addr), X.K.In s.heap → BindsTo s fd ⟨.ref a :: us, kw⟩ (ps.zip (wz (.ref a)))) (hx : PassesAt CX X σ E)
    (I : Inv X pins σ H s) (r : ∀ a : Addr, Vals (vz (.ref a)) (wz (.ref a)))
    (h : ∀ x dx, H x = none → H dx = none → dx ≠ x → sp (vz (.ref x)) (upd (upd H dx (.own x)) x (.ins C dx [])) (fun v H2 => v = .non ∧ Q (.ref x) H2) E) :
    wpAny (model X.prog X.w) X.A (call (.ref C) us kw) (EP X pins σ Q) X.xe s := by
  have n1 : H (s.heap.objs.size + 1) = none := I.hok.fresh (Nat.le_succ _)
  have n0 : H s.heap.objs.size = none := I.hok.fresh (Nat.le_refl _)
  have hq := h (s.heap.objs.size + 1) s.heap.objs.size n1 n0 (Nat.ne_of_lt (Nat.lt_succ_self _))
  have I2 := Inv.made (C := C) I
  refine wpAny_call (make_map (f := f) I.kIn M.makes M.init (beq_iff_eq.mp M.fn) (codeAny_mono (F.go _ X.stack _ _ ⟨Value.ref (s.heap.objs.size + 1) :: us, kw⟩ _ _ _ E (hr.make C us kw)
    (guards_make hg) (I2.env0.make C us kw) (hb _ (s.heap.objs.size + 1) I2.kIn) (r _) hq) ?_))
  intro r s' hq'
  have z := backS hx I2 hq'
  cases r with
  | error e => exact z
  | ok fl =>
    cases fl with
    | ret u =>
      obtain ⟨v, H', I3, rv, rfl, q3⟩ := z
      exact ⟨rv, ⟨V.ref (s.heap.objs.size + 1), H', I3, rfl, q3⟩⟩
    | next => exact z.elim
    | brk => exact z.elim
    | cont => exact z.elim
theorem Maker.makeE (M : Maker X.prog X.w X.K X.mg X.base CX k x C D ps sp) (hG : Gl X x) (hr : Room j X.A) (hg : X.A.guards = some [])
    (hx : ∀ σ, PassesAt CX X σ (E σ)) (ha : PA X (e :: es) t) (hj : k + 1 ≤ j := by decide)
    (hdb : (x == ("__debug__" : Str)) = false := by decide) (he : starEach (e :: es) X.env = (false, eval e X.env) :: starEach es X.env := by rfl)
    (hpl : (backTo pos (starEach es X.env)).any (·.1) = false := by rfl) :
    PE X (.Call (.Name x p) (e :: es) [] pos) (tMakeE C sp E t) := by
  obtain ⟨f, fd, hm, hM, F, b, G⟩ := M.ex
  constructor
  intro pins s σ H Q I h
  refine wpAny_Call_Name_kw (ld_glob I hG hm ?_ hdb)
  refine PySem.W.callWith_K (h₀ := X.base) I.ok.mod.kin hM.kp (thn (ha.run pos pins s σ H _ I h) ?_) he hpl
  rintro us s1 ⟨vs, H1, I1, r, z⟩
  refine ⟨I1.kIn, ?_⟩
  have hl : us.length + 1 = ps.length := by
    have z0 := G.ln _ _ _ _ (z (s1.heap.objs.size + 1) s1.heap.objs.size (I1.hok.fresh (Nat.le_succ _)) (I1.hok.fresh (Nat.le_refl _)) (Nat.ne_of_lt (Nat.lt_succ_self _)))
    rw [List.length_cons, r.length] at z0
    exact z0
  refine gmake (vs := vs) (wz := fun a => a :: us) (vz := fun a => a :: vs) hM G (hr.mono hj) hg (fun s a ks => ?_) (hx σ) I1 (fun a => .cons rfl r) z
  have bb := b s (.ref a :: us) ks (by rw [List.append_nil]; exact hl)
  rw [List.append_nil] at bb
  exact bb
theorem Maker.makeKw (M : Maker X.prog X.w X.K X.mg X.base CX k x C D ps sp) (hb : ∀ (f : Addr) (fd : FuncData), D f fd → KwB X.K fd ps (n + 1) ks g gV)
    (hG : Gl X x) (hr : Room j X.A) (hg : X.A.guards = some [])
    (hx : ∀ σ, PassesAt CX X σ (E σ)) (ha : PA X (e :: es) t) (hkw : PK X kws tk) (hj : k + 1 ≤ j := by decide)
    (hall : (backToKw pos (keywordEach kws X.env)).all (·.1.isSome) = true := by rfl)
    (hks : (backToKw pos (keywordEach kws X.env)).filterMap (·.1) = ks := by rfl)
    (hdb : (x == ("__debug__" : Str)) = false := by decide) (he : starEach (e :: es) X.env = (false, eval e X.env) :: starEach es X.env := by rfl)
    (hpl : ((backTo pos (starEach (e :: es) X.env)).any (·.1) || (backToKw pos (keywordEach kws X.env)).any (·.1.isNone)) = false := by rfl) :
    PE X (.Call (.Name x p) (e :: es) kws pos) (tMakeKw C n ks.length sp gV E t tk) := by
  obtain ⟨f, fd, hm, hM, F, b, G⟩ := M.ex
  have kb := hb f fd F
  constructor
  intro pins s σ H Q I h
  refine wpAny_Call_Name_kw (ld_glob I hG hm ?_ hdb)
  refine PySem.W.callWith_KW (h₀ := X.base) I.ok.mod.kin hM.kp hall (thn (ha.run pos pins s σ H _ I h) ?_) hpl he
  rintro us s1 ⟨vs, H1, I1, r, z⟩
  refine thn (hkw.run pos pins s1 σ H1 _ I1 z) ?_
  rintro ws s2 ⟨zs, H2, I2, rz, l1, l2, z2⟩
  refine ⟨I2.kIn, ?_⟩
  rw [hks]
  have n1 : us.length = n := by rw [← r.length]; exact l1
  have n2 : ws.length = ks.length := by rw [← rz.length]; exact l2
  refine gmake (vs := vs) (wz := fun a => g (a :: us) ws) (vz := fun a => gV (a :: vs) zs) hM G (hr.mono hj) hg (fun s a kk => kb.to s (.ref a :: us) ws kk (by rw [List.length_cons, n1]) n2) (hx σ) I2
    (fun a => kb.rel (.ref a :: vs) zs (.ref a :: us) ws (by rw [List.length_cons, l1]) l2 (.cons rfl r) rz) z2
theorem Maker.makeKw0 (M : Maker X.prog X.w X.K X.mg X.base CX k x C D ps sp) (hb : ∀ (f : Addr) (fd : FuncData), D f fd → KwB X.K fd ps 1 ks g gV)
    (hG : Gl X x) (hr : Room j X.A) (hg : X.A.guards = some [])
    (hx : ∀ σ, PassesAt CX X σ (E σ)) (hkw : PK X kws tk) (hj : k + 1 ≤ j := by decide)
    (hall : (backToKw pos (keywordEach kws X.env)).all (·.1.isSome) = true := by rfl)
    (hks : (backToKw pos (keywordEach kws X.env)).filterMap (·.1) = ks := by rfl)
    (hdb : (x == ("__debug__" : Str)) = false := by decide)
    (hpl : ((backTo pos (starEach [] X.env)).any (·.1) || (backToKw pos (keywordEach kws X.env)).any (·.1.isNone)) = false := by rfl) :
    PE X (.Call (.Name x p) [] kws pos) (tMakeKw C 0 ks.length sp gV E tNil tk) := by
  obtain ⟨f, fd, hm, hM, F, b, G⟩ := M.ex
  have kb := hb f fd F
  constructor
  intro pins s σ H Q I h
  refine wpAny_Call_Name_kw (ld_glob I hG hm ?_ hdb)
  refine PySem.W.callWith_KW0 (h₀ := X.base) I.ok.mod.kin hM.kp hall ?_ hpl
  refine thn (hkw.run pos pins s σ H _ I h) ?_
  rintro ws s2 ⟨zs, H2, I2, rz, l1, l2, z2⟩
  refine ⟨I2.kIn, ?_⟩
  rw [hks]
  have n2 : ws.length = ks.length := by rw [← rz.length]; exact l2
  refine gmake (vs := []) (wz := fun a => g [a] ws) (vz := fun a => gV [a] zs) hM G (hr.mono hj) hg (fun s a kk => kb.to s [.ref a] ws kk rfl n2) (hx σ) I2
    (fun a => kb.rel [.ref a] zs [.ref a] ws rfl l2 (.cons rfl .nil) rz) z2
end

/-! ### f(e, ..) of a def that may raise -/
section
variable {X : Cx} {CX : CXT} {j k : Nat} {x : Str} {st : Stmt} {ps : List Str} {sp : Sp} {E : L2.St → XK} {e : Expr} {es : List Expr} {t : TA} {p pos : Pos}
theorem Callee.callE (C : Callee X.prog X.w X.K X.mg X.base CX k x st ps sp) (hG : Gl X x) (hr : Room j X.A) (hg : X.A.guards = some [])
    (hx : ∀ σ, PassesAt CX X σ (E σ)) (ha : PA X (e :: es) t) (hj : k ≤ j := by decide) (hdb : (x == ("__debug__" : Str)) = false := by decide)
    (he : starEach (e :: es) X.env = (false, eval e X.env) :: starEach es X.env := by rfl)
    (hpl : (backTo pos (starEach es X.env)).any (·.1) = false := by rfl) :
    PE X (.Call (.Name x p) (e :: es) [] pos) (tCallS sp E t) := by
  obtain ⟨f, fd, hm, F, b, G⟩ := C.ex
  constructor
  intro pins s σ H Q I h
  refine wpAny_Call_Name_kw (ld_glob I hG hm ?_ hdb)
  refine PySem.W.callWith_K (h₀ := X.base) I.ok.mod.kin F.kp (thn (ha.run pos pins s σ H _ I h) ?_) he hpl
  rintro us s1 ⟨vs, H1, I1, r, z⟩
  refine ⟨I1.kIn, ?_⟩
  have hl : us.length = ps.length := by rw [← r.length]; exact G.ln _ _ _ _ z
  have bb := b s1 us I1.kIn (by rw [List.append_nil]; exact hl)
  rw [List.append_nil] at bb
  exact gcallS (args := ⟨us, []⟩) G (hr.mono hj) hg bb (hx σ) I1 r z
end

/-- an own class: its fields, what isinstance asks -/
structure Own (K : PySem.W.Frag) (C : Addr) (fields : List Str) : Prop where
  cl : Cls K C
  no : ∀ f ∈ fields, NoAttr K C f
  ha : PySem.W.findIn K (.ref C) "__class__" = some (some (.builtin "object.__class__"))
  hn : PySem.W.specialIn K (.builtin "object.__class__") "__get__" = some (some (.builtin "getset_descriptor.__get__"))
  htk : PySem.W.takesIn K (.builtin "object.__class__") = some true
  hm : PySem.W.mroIn K C (.type "object") = some true
theorem Own.ty {K : PySem.W.Frag} {C : Addr} {fields : List Str} (O : Own K C fields) {H : Hp} {a dx : Addr} {fs : List (Str × V)} (e : H a = some (.ins C dx fs)) : TyX K H (.ref a) (.ref C) :=
  .base (.ins e O.cl O.ha O.hn O.htk O.hm)
theorem kit_self {K : PySem.W.Frag} {C : Addr} : PySem.W.kitOne K (.ref C) (.ref C) = some true := by
  unfold PySem.W.kitOne
  rw [if_pos (by simp)]

/-! ### G.__init__(self, ..), G an own exception class without an __init__ of its own -/
section
variable {X : Cx} {e : Expr} {es : List Expr} {ta : TA} {p1 p2 pos : Pos} {x : Str} {C : Addr} {mc : Value}
theorem pe_ginit {pl : Sem Bool} (hg : Gl X x) (hm : X.mg x = some (.ref C)) (sg : PySem.W.specialIn X.K (.ref C) "__getattribute__" = some (some (.builtin "type.__getattribute__")))
    (hr : PySem.W.readsIn X.K C mc = true) (vV : PySem.W.findCls X.K (.ref C) mc "__init__" = some (.val (.builtin "ValueError.__init__"))) (ha : PA X (e :: es) ta)
    (hdb : (x == ("__debug__" : Str)) = false := by decide)
    (hc : eval (.Call (.Attribute (.Name x p1) "__init__" p2) (e :: es) [] pos) X.env = (do
      let ov ← eval (.Name x p1) X.env
      standAt p2.atName
      let (f, first) ← holding [ov] (getMethod ov "__init__" pl)
      callWith pos f first (backTo pos (starEach (e :: es) X.env)) (backToKw pos (keywordEach [] X.env))) := by rfl)
    (he : starEach (e :: es) X.env = (false, eval e X.env) :: starEach es X.env := by rfl) (hpl : (backTo pos (starEach es X.env)).any (·.1) = false := by rfl) :
    PE X (.Call (.Attribute (.Name x p1) "__init__" p2) (e :: es) [] pos) (tVeI X.K ta) := by
  constructor
  intro pins s σ H Q I h
  refine PySem.W.methodCall_KW (ld_glob I hg hm ?_ hdb) hc
  refine PySem.W.method_cls I.kIn sg (PySem.W.cls_value I.kIn hr vV (by decide +kernel) ?_)
  refine PyProof.Rows.callWith_method1 (thn (ha.run pos pins _ σ H _ (I.tok _) h) ?_) he hpl
  rintro us s1 ⟨vs, H1, I1, r1, a, C', ws, ev, hl, T, ea, z⟩
  subst ev
  cases r1 with
  | @cons _ u0 _ ur ra rw' =>
    obtain rfl : u0 = Value.ref a := ra
    have hlen : ur.length ≤ sizeLine := by
      rw [← Paired.length rw', sizeLine_eq]
      omega
    exact oinit_ok T I1 ea hlen fun s' J => ⟨.non, H1, J, rfl, z⟩
end

/-- an own exception class whose __init__ is ValueError's -/
structure GBase (K : PySem.W.Frag) (mg : Str → Option Value) (x : Str) (C : Addr) : Prop where
  mgx : mg x = some (.ref C)
  sg : PySem.W.specialIn K (.ref C) "__getattribute__" = some (some (.builtin "type.__getattribute__"))
  rd : PySem.W.readsIn K C (.type "type") = true
  vV : PySem.W.findCls K (.ref C) (.type "type") "__init__" = some (.val (.builtin "ValueError.__init__"))
/-! ### defs with defaults, by their bodies -/
section
variable {P : Program} {w : World} {K : PySem.W.Frag} {mg : Str → Option Value} {base : Heap} {k : Nat} {f : Addr} {fd : FuncData} {ps : List Str} {sp : Sp}
end

/-! ### what was just laid, told without its heap's form -/
section
variable {X : Cx} {e : Expr} {es : List Expr} {t : TA} {te : TE} {pos : Pos}
abbrev Newly (H : Hp) (o : HO) (Q : VK) : Prop := ∀ (p : Addr) (H' : Hp), H p = none → Same H H' → H' p = some o → Q (.ref p) H'
theorem Newly.out {H : Hp} {o : HO} {Q : VK} (h : Newly H o Q) : ∀ p, H p = none → Q (.ref p) (upd H p o) := fun p hp => h p _ hp (same_new hp) upd_same
def tTupN (t : TA) : TE := fun σ H Q => t σ H fun xs H1 => xs.length ≤ sizeLine ∧ Newly H1 (.tup xs) Q
def tLstN (t : TA) : TE := fun σ H Q => t σ H fun xs H1 => xs.length ≤ sizeLine ∧ Newly H1 (.lst xs) Q
theorem pa_cut0 {t : TA} (h : PA X es t) : PA X es (fun σ H Q => ∃ R : List V → Hp → Prop, t σ H R ∧ ∀ vs H', R vs H' → Q vs H') := ⟨fun pos pins s σ H Q I ⟨R, h1, h2⟩ =>
  thn (h.run pos pins s σ H R I h1) fun _ _ ⟨vs, H', I', r, q⟩ => ⟨vs, H', I', r, h2 vs H' q⟩⟩
theorem pe_tupN {x1} (h : PA X es t) : PE X (.Tuple es x1 pos) (tTupN t) :=
  ⟨fun pins s σ H Q I q => (pe_tup (pa_cut0 h)).run pins s σ H Q I ⟨_, q, fun _ _ ⟨l, z⟩ => ⟨l, Newly.out z⟩⟩⟩
theorem pe_lstN (h : PA X es t) : PE X (.List es pos) (tLstN t) :=
  ⟨fun pins s σ H Q I q => (pe_lst (pa_cut0 h)).run pins s σ H Q I ⟨_, q, fun _ _ ⟨l, z⟩ => ⟨l, Newly.out z⟩⟩⟩
def rCatN : R2 := fun x y H Q => ∃ l b xs zs, x = .ref l ∧ y = .ref b ∧ H l = some (.lst xs) ∧ H b = some (.lst zs) ∧ xs.length + zs.length ≤ sizeLine ∧ Newly H (.lst (xs ++ zs)) Q
theorem op_catN : OpR X (binaryOp .Add) rCatN := fun pins s σ H x y v u Q I rx ry ⟨l, b, xs, zs, h1, h2, h3, h4, h5, h6⟩ =>
  op_cat pins s σ H x y v u Q I rx ry ⟨l, b, xs, zs, h1, h2, h3, h4, h5, Newly.out h6⟩
def rRepN : R2 := fun x y H Q => ∃ l k xs, x = .ref l ∧ y = .int k ∧ H l = some (.lst xs) ∧ -(2 ^ 63) ≤ k ∧ k < 2 ^ 63 ∧ xs.length * k.toNat ≤ sizeLine ∧ Newly H (.lst (List.replicate k.toNat xs).flatten) Q
theorem op_repN : OpR X (binaryOp .Mult) rRepN := fun pins s σ H x y v u Q I rx ry ⟨l, k, xs, h1, h2, h3, h4, h5, h6, h7⟩ =>
  op_rep pins s σ H x y v u Q I rx ry ⟨l, k, xs, h1, h2, h3, h4, h5, h6, Newly.out h7⟩
def rSlLN (K : PySem.W.Frag) : V → Option Int → Option Int → Hp → VK → Prop := fun x lo hi H Q => ∃ a xs, x = .ref a ∧ SqL K H a xs ∧ Newly H (.lst (cutV xs lo hi)) Q
theorem sl_listN : L2.SlR X (rSlLN X.K) := fun pins s σ H x v vl vu lo hi sl Q I rx hs pl pu ⟨a, xs, h1, h2, h3⟩ =>
  sl_list pins s σ H x v vl vu lo hi sl Q I rx hs pl pu ⟨a, xs, h1, h2, Newly.out h3⟩
/-- a slice of a tuple that may be the whole: whatever tuple it is -/
def rSlTN (K : PySem.W.Frag) : V → Option Int → Option Int → Hp → VK → Prop := fun x lo hi H Q => ∃ a xs, x = .ref a ∧ SqT K H a xs ∧
  ∀ (p : Addr) (H' : Hp), Same H H' → SqT K H' p (cutV xs lo hi) → Q (.ref p) H'
theorem cut_all {xs : List V} {lo hi : Option Int} (h1 : HT.sIx xs.length 0 lo = 0) (h2 : HT.sIx xs.length xs.length hi = xs.length) : cutV xs lo hi = xs := by
  unfold cutV
  rw [h1, h2, List.drop_zero, Nat.sub_zero, List.take_of_length_le (Nat.le_refl _)]
/-- t + u of tuples: whatever tuple it is -/
def rCatAN (K : PySem.W.Frag) : R2 := fun x y H Q => ∃ a b xs ys, x = .ref a ∧ y = .ref b ∧ SqT K H a xs ∧ SqT K H b ys ∧ xs.length + ys.length ≤ sizeLine ∧
  ∀ (p : Addr) (H' : Hp), Same H H' → SqT K H' p (xs ++ ys) → Q (.ref p) H'
end

/-! ### further rules -/
section
variable {X : Cx}
theorem pe_globR {x : Str} {a : Addr} {p : Pos} (hg : Gl X x) (hm : X.mg x = some (.ref a)) (hdb : (x == ("__debug__" : Str)) = false := by decide) : PE X (.Name x p) (tC (.ref a)) := pe_glob hg hm rfl hdb
/-- // by a divisor of either sign -/
def CDivA (_ j : Int) : Prop := j ≠ 0 ∧ j.natAbs.log2 < 9000
theorem op_fdivA : OpR X (binaryOp .FloorDiv) (rI CDivA fun i j => .int (i.fdiv j)) := opI fun _ _ _ _ _ _ _ hc q => floordiv_int hc.1 q (.inl (PyProof.noPylong_of_log2 hc.2))
/-- x * n of a text -/
theorem op_rep_str : OpR X (binaryOp .Mult) (fun x y H Q => ∃ z n, x = .str z ∧ y = .int n ∧ MulOk z n ∧ Q (.str (Txt.mul z n)) H) := by
  rintro pins s σ H x y v u Q I rx ry ⟨z, n, rfl, rfl, hok, q⟩
  obtain ⟨t, rfl⟩ := rx
  obtain ⟨t', rfl⟩ := ry
  exact SB.mul hok fun t2 k => ⟨.str _, H, I.tok _, ⟨_, rfl⟩, q⟩
/-- repr of any data -/
theorem call_repr_any (hg : X.A.guards = some []) (hu : X.A.units + 150 < cLine) : CallR X (.builtin "repr") (fun xs H Q =>
    ∃ x d, xs = [x] ∧ Dp X.K H x d ∧ d.showable = true ∧ SeqAt.shaped d = true ∧ d.shown.length ≤ sizeLine ∧ Q (.str d.shown) H) := by
  intro pins s σ H xs us Q I r h
  obtain ⟨x, d, rfl, hd, hs, hsh, hz, q⟩ := h
  obtain ⟨u, rfl, ru⟩ := vals1 r
  cases x with
  | ref a => exact call_repr_data hg hu pins s σ H [.ref a] [u] Q I (.cons ru .nil) ⟨a, d, rfl, hd, hs, hsh, hz, q⟩
  | non =>
    cases hd
    cases ru
    exact PySem.P.repr_of_none ⟨.str _, H, I.tok _, ⟨_, rfl⟩, q⟩
  | bl b =>
    cases hd
    cases ru
    exact PySem.P.repr_of_bool ⟨.str _, H, I.tok _, ⟨_, rfl⟩, q⟩
  | int i =>
    cases hd
    obtain ⟨t, rfl⟩ := ru
    exact PySem.P.repr_of_int (by simpa only [PyData.showable, decide_eq_true_eq] using hs) ⟨.str _, H, I.tok _, ⟨_, rfl⟩, q⟩
  | str z =>
    cases hd
    obtain ⟨t, rfl⟩ := ru
    exact PySem.P.repr_of_str ⟨.str _, H, I.tok _, ⟨_, rfl⟩, q⟩ hz
  | byt b => cases hd
  | flt b => cases hd
  | ty n => cases hd
end

/-- an own error is what its own class's clause takes -/
theorem exm_own {K : PySem.W.Frag} {C : Addr} (eB : PySem.W.subIn K (.ref C) (.type "BaseException") = some true) (hc : PySem.W.isClsIn K C = true) (ht : PySem.W.typeIn K (.ref C) = some (.type "type"))
    (hs : PySem.W.subIn K (.ref C) (.ref C) = some true) : PySem.W.exmOne K (.ref C) (.ref C) = some true := by
  have b1 : (PySem.W.subIn K (.ref C) (.type "BaseException") == some true) = true := by rw [eB]; rfl
  have b2 : ((PySem.W.clsIn K C).isSome && PySem.W.typeIn K (.ref C) == some (.type "type")) = true := by
    have q : (PySem.W.clsIn K C).isSome = true := hc
    rw [q, ht]; rfl
  unfold PySem.W.exmOne
  rw [if_pos b1]
  unfold PySem.W.kitCls
  show (if ((PySem.W.clsIn K C).isSome && PySem.W.typeIn K (.ref C) == some (.type "type")) = true then PySem.W.subIn K (.ref C) (.ref C) else none) = some true
  rw [if_pos b2]
  exact hs
abbrev dR (st : Stmt) (m : Str) (q : Str) (K : PySem.W.Frag) : Addr → FuncData → Prop := fun f fd => Fun K m q st f fd

/-! ### own exceptions whose __init__ stores its arguments -/
/-- the __init__ of such a class: self.f = .. for the names fn, in order -/
def spX (C : Addr) (fn : List Str) : Sp := fun vs H Q _ => ∃ (a : Addr) (ws : List V), vs = .ref a :: ws ∧ ws.length = fn.length ∧ H a = some (exo a C none) ∧
  ∀ d, H d = none → d ≠ a → Q .non (upd (upd H d (exd d (fn.zip ws).reverse)) a (exo a C (some d)))
structure ExcOk (P : Program) (w : World) (K : PySem.W.Frag) (mg : Str → Option Value) (base : Heap) (x : Str) (C : Addr) (fn ps : List Str) : Prop where
  T : OexC K C
  xf : XfC K C
  te : PySem.W.exmOne K (.ref C) (.ref C) = some true
  no : ∀ f ∈ fn, PySem.W.findIn K (.ref C) f = some none
  mgx : mg x = some (.ref C)
  ex : ∃ (fI : Addr) (fd : FuncData), PySem.W.findIn K (.ref C) "__init__" = some (some (.ref fI)) ∧ PySem.W.typeIn K (.ref fI) = some (.type "function") ∧
    Binds K fd ps [] ∧ FnOk P w K mg base CX0 1 fI fd ps (spX C fn)
/-- X(e, ..) of such a class, about to be raised -/
def tMkX (C : Addr) (fn : List Str) (ta : TA) : L2.St → Hp → XK → Prop := fun σ H Q => ta σ H fun vs H1 => vs.length = fn.length ∧ vs.length ≤ 1000 ∧
  ∀ d, H1 d = none → Q (.ref C) (some d) (upd H1 d (.xd (fn.zip vs).reverse))
theorem heap_back {H : Hp} {a d : Addr} {o1 o2 o3 o4 : HO} (ha : H a = none) (n : d ≠ a) : upd (del (upd (upd (upd H a o1) d o2) a o3) a) d o4 = upd H d o4 := by
  funext b
  by_cases hb : b = d
  · subst hb; rw [upd_same, upd_same]
  · rw [upd_ne hb, upd_ne hb]
    by_cases hba : b = a
    · subst hba; rw [del_same, ha]
    · rw [del_ne hba, upd_ne hba, upd_ne hb, upd_ne hba]
theorem tMkX_ok {C : Addr} {fn : List Str} {vs : List V} {H1 : Hp} {Q : XK} (l : vs.length = fn.length) (z : vs.length ≤ 1000)
    (h : ∀ d, H1 d = none → Q (.ref C) (some d) (upd H1 d (.xd (fn.zip vs).reverse))) :
    vs.length ≤ 1000 ∧ ∀ a, H1 a = none → spX C fn (.ref a :: (vs ++ [])) (upd H1 a (exo a C none))
      (fun v H2 => v = .non ∧ ∃ (d : Addr) (fs : List (Str × V)), H2 a = some (exo a C (some d)) ∧ H2 d = some (exd d fs) ∧ H1 d = none ∧ Q (.ref C) (some d) (upd (del H2 a) d (.xd fs))) (fun _ _ _ => False) := by
  refine ⟨z, fun a ha => ⟨a, vs, by rw [List.append_nil], l, upd_same, fun d hd n => ⟨rfl, d, (fn.zip vs).reverse, upd_same, ?_, ?_, ?_⟩⟩⟩
  · rw [upd_ne n, upd_same]
  · rw [upd_ne n] at hd; exact hd
  · rw [heap_back ha n]
    rw [upd_ne n] at hd
    exact h d hd
section
variable {X : Cx} {j : Nat} {C : Addr} {x : Str} {fn ps : List Str} {e : Expr} {es : List Expr} {ta : TA} {p pos pos2 : Pos} {W : WX}
theorem pmk_imp {t t' : L2.St → Hp → XK → Prop} (h : PMk X e t) (i : ∀ σ H Q, t' σ H Q → t σ H Q) : PMk X e t' := fun pins s σ H Q I z => h pins s σ H Q I (i σ H Q z)
/-- an argument list's reading, weakened -/
def aCut (t : TA) : TA := fun σ H Q => ∃ R : List V → Hp → Prop, t σ H R ∧ ∀ vs H', R vs H' → Q vs H'
theorem pa_cut {es : List Expr} {t : TA} (h : PA X es t) : PA X es (aCut t) := ⟨fun pos pins s σ H Q I ⟨R, h1, h2⟩ =>
  thn (h.run pos pins s σ H R I h1) fun _ _ ⟨vs, H', I', r, q⟩ => ⟨vs, H', I', r, h2 vs H' q⟩⟩
theorem ExcOk.make (E : ExcOk X.prog X.w X.K X.mg X.base x C fn ps) (hG : Gl X x) (hr : Room j X.A) (ha : PA X (e :: es) ta) (hj : 2 ≤ j := by decide)
    (hdb : (x == ("__debug__" : Str)) = false := by decide) (he : starEach (e :: es) X.env = (false, eval e X.env) :: starEach es X.env := by rfl)
    (hpl : (backTo pos (starEach es X.env)).any (·.1) = false := by rfl) :
    PMk X (.Call (.Name x p) (e :: es) [] pos) (tMkX C fn ta) := by
  obtain ⟨fI, fd, iC, tI, b, G⟩ := E.ex
  refine pmk_imp (pmk_oex (CX := CX0) E.T iC tI G (hr.mono hj) b .nil pass0 hG E.mgx (pa_cut ha) hdb he hpl) ?_
  intro σ H Q h
  exact ⟨_, h, fun vs H1 ⟨l, z, q⟩ => tMkX_ok l z q⟩
theorem ExcOk.raise (E : ExcOk X.prog X.w X.K X.mg X.base x C fn ps) (hc : X.calm = true) (hG : Gl X x) (hr : Room j X.A) (tk : Takes X W) (ha : PA X (e :: es) ta) (hj : 2 ≤ j := by decide)
    (hdb : (x == ("__debug__" : Str)) = false := by decide) (he : starEach (e :: es) X.env = (false, eval e X.env) :: starEach es X.env := by rfl)
    (hpl : (backTo pos (starEach es X.env)).any (·.1) = false := by rfl) :
    PS X (.Raise (some (.Call (.Name x p) (e :: es) [] pos)) none pos2) (fun _ σ H => tMkX C fn ta σ H fun cls d H' => W cls d σ H') :=
  ps_raise hc tk (E.make hG hr ha hj hdb he hpl)
end
/-! ### within a comprehension's block -/
section
variable {X : Cx} {s : Shared} {H : Hp} {sc : Scope} {env : Env} {fp : List Addr}
end
end Lay

set_option Elab.async false
set_option linter.all false
set_option maxRecDepth 100000
set_option maxHeartbeats 2000000
namespace Lay
open PySem PySem.Spec PyProof.Rows L2
/-! ### own len, str, repr, == -/
section
variable {X : Cx} {j k : Nat} {C f : Addr} {fd : FuncData} {D : Addr → FuncData → Prop} {ps : List Str} {sp : Sp} {pins : List (Addr × Obj)} {σ : L2.St} {H : Hp} {s : Shared}
  {Q : VK} {E : XK} {us : List Value} {vs : List V}
theorem gcallA {A : Around} {E' : Value → Shared → Prop} (F : FnG X.prog X.w X.K X.mg X.base CX0 k f fd ps sp) (hr : Room k A) (hg : A.guards = some [])
    (e0 : Env0 X.prog X.w X.K X.mg X.base A X.stack s H) (hb : Binds X.K fd ps []) (I : Inv X pins σ H s) (r : Vals vs us) (h : sp vs H Q E) :
    wpAny (model X.prog X.w) A (call (.ref f) us) (EP X pins σ Q) E' s := by
  have hl : us.length = ps.length := by rw [← r.length]; exact F.ln _ _ _ _ h
  have bb := hb s us I.kIn (by rw [List.append_nil]; exact hl)
  rw [List.append_nil] at bb
  refine wpAny_call (codeAny_mono (F.go A X.stack s H ⟨us, []⟩ us vs Q E hr hg e0 bb r h) ?_)
  intro r s' hq
  cases r with
  | error e => exact hq.elim
  | ok fl =>
    cases fl with
    | ret u => exact I.after hq
    | next => exact hq.elim
    | brk => exact hq.elim
    | cont => exact hq.elim
def rLenO (C : Addr) (sp : Sp) : List V → Hp → VK → Prop := fun xs H Q => ∃ a dx fs, xs = [.ref a] ∧ H a = some (.ins C dx fs) ∧ sp [.ref a] H (fun v H' => ∃ n : Int, v = .int n ∧ 0 ≤ n ∧ n < 2 ^ 63 ∧ Q (.int n) H') E0
theorem Method.len (M : Method X.prog X.w X.K X.mg X.base CX0 k C "__len__" D ps sp) (hr : Room j X.A) (hg : X.A.guards = some []) (hj : k + 1 ≤ j := by decide) : CallR X (.builtin "len") (rLenO C sp) := by
  obtain ⟨f, fd, c, hm, F, b, G⟩ := M.ex
  intro pins s σ H xs us Q I r h
  obtain ⟨a, dx, fs, rfl, ea, z⟩ := h
  obtain ⟨u, rfl, ru⟩ := r.one
  obtain rfl : u = Value.ref a := ru
  obtain ⟨mA, O, _⟩ := ins_get I.hok ea
  obtain ⟨od, J, _⟩ := O.look
  obtain ⟨m, fr⟩ := I.fr
  have hr' : Room k X.A.in1 := (hr.mono hj).in1
  refine PySem.W.len_K fr I.ok.mod.kin J hm.at_ hm.fn ?_
  refine wpAny_mono (gcallA (vs := [V.ref a]) G hr' hg I.env0.in1 b I (.cons rfl .nil) z) ?_ (fun _ _ e => e)
  rintro w s' ⟨v, H', I', rv, n, rfl, h0, h1, q⟩
  obtain ⟨t, rfl⟩ := (show ∃ t, w = Value.int n t from rv)
  exact ⟨⟨h0, h1⟩, .int n, H', I'.tok _, ⟨_, rfl⟩, q⟩
def rStrO (C : Addr) (sp : Sp) : List V → Hp → VK → Prop := fun xs H Q => ∃ a dx fs, xs = [.ref a] ∧ H a = some (.ins C dx fs) ∧ sp [.ref a] H (fun v H' => ∃ z : Str, v = .str z ∧ Q (.str z) H') E0
theorem Method.str (M : Method X.prog X.w X.K X.mg X.base CX0 k C "__str__" D ps sp) (hr : Room j X.A) (hg : X.A.guards = some []) (hj : k + 2 ≤ j := by decide) : CallR X (.type "str") (rStrO C sp) := by
  obtain ⟨f, fd, c, hm, F, b, G⟩ := M.ex
  intro pins s σ H xs us Q I r h
  obtain ⟨a, dx, fs, rfl, ea, z⟩ := h
  obtain ⟨u, rfl, ru⟩ := r.one
  obtain rfl : u = Value.ref a := ru
  obtain ⟨mA, O, _⟩ := ins_get I.hok ea
  obtain ⟨od, J, _⟩ := O.look
  have hr' : Room k X.A.in1.in1 := (show Room (k + 1) X.A.in1 from (hr.mono hj).in1).in1
  refine PySem.W.kso_call hr'.units0 I.kIn J hm.at_ hm.fn ?_
  refine wpAny_mono (gcallA (vs := [V.ref a]) G hr' hg I.env0.in1.in1 b I (.cons rfl .nil) z) ?_ (fun _ _ e => e)
  rintro w s' ⟨v, H', I', rv, n, rfl, q⟩
  obtain ⟨t, rfl⟩ := (show ∃ t, w = Value.str n t from rv)
  exact ⟨.str n, H', I', ⟨_, rfl⟩, q⟩
theorem Method.repr (M : Method X.prog X.w X.K X.mg X.base CX0 k C "__repr__" D ps sp) (hr : Room j X.A) (hg : X.A.guards = some []) (hj : k + 1 ≤ j := by decide) : CallR X (.builtin "repr") (rStrO C sp) := by
  obtain ⟨f, fd, c, hm, F, b, G⟩ := M.ex
  intro pins s σ H xs us Q I r h
  obtain ⟨a, dx, fs, rfl, ea, z⟩ := h
  obtain ⟨u, rfl, ru⟩ := r.one
  obtain rfl : u = Value.ref a := ru
  obtain ⟨mA, O, _⟩ := ins_get I.hok ea
  obtain ⟨od, J, _⟩ := O.look
  obtain ⟨m, fr⟩ := I.fr
  have hr' : Room k X.A.in1 := (hr.mono hj).in1
  refine PySem.W.repr_K hr'.units0 fr I.ok.mod.kin J hm.at_ hm.fn ?_
  refine wpAny_mono (gcallA (vs := [V.ref a]) G hr' hg I.env0.in1 b I (.cons rfl .nil) z) ?_ (fun _ _ e => e)
  rintro w s' ⟨v, H', I', rv, n, rfl, q⟩
  obtain ⟨t, rfl⟩ := (show ∃ t, w = Value.str n t from rv)
  exact ⟨.str n, H', I', ⟨_, rfl⟩, q⟩
/-- o == x -/
def rEqO (K : PySem.W.Frag) (C : Addr) (sp : Sp) : R2 := fun x y H Q => ∃ a dx fs t, x = .ref a ∧ H a = some (.ins C dx fs) ∧ TyX K H y t ∧ PySem.W.notFirst K C t = true ∧ sp [x, y] H (fun v H' => ∃ b : Bool, v = .bl b ∧ Q (.bl b) H') E0
theorem notFirst_self {K : PySem.W.Frag} {C : Addr} : PySem.W.notFirst K C (.ref C) = true := by
  unfold PySem.W.notFirst
  simp
theorem Method.eq {o : CmpOp} (M : Method X.prog X.w X.K X.mg X.base CX0 k C (cmpInfo o).2.1 D ps sp) (hop : ∀ a b, compareOp o a b = richCompare o a b) (hr : Room j X.A) (hg : X.A.guards = some []) (hj : k ≤ j := by decide) : OpR X (compareOp o) (rEqO X.K C sp) := by
  obtain ⟨f, fd, c, hm, F, b, G⟩ := M.ex
  intro pins s σ H x y v u Q I rx ry h
  obtain ⟨a, dx, fs, t, rfl, ea, ty, hn, z⟩ := h
  obtain rfl : v = Value.ref a := rx
  obtain ⟨mA, O, _⟩ := ins_get I.hok ea
  obtain ⟨od, J, _⟩ := O.look
  obtain ⟨m, fr⟩ := I.fr
  obtain ⟨P, Z, p, hx⟩ := kit_of I ry ty
  rw [hop]
  refine PySem.W.cmp_K (op := o) (tb := t) hr.units0 fr I.ok.mod.kin J (Z.ty _ _ I.kIn p) hn hm.at_ hm.fn ?_
  refine wpAny_mono (gcallA (vs := [V.ref a, y]) G (hr.mono hj) hg I.env0 b I (.cons rfl (.cons ry .nil)) z) ?_ (fun _ _ e => e)
  rintro w s' ⟨v, H', I', rv, n, rfl, q⟩
  obtain rfl : w = Value.bool n := rv
  exact ⟨.bl n, H', I', rfl, q⟩
theorem ifBound_B {M : Model} {A : Around} {E : Value → Shared → Prop} {s : Shared} {K : PySem.W.Frag} {x C : Addr} {ox : Obj} {od : Option Obj} {name : Str} {id : String} {args : List Value} {Q : Option Value → Shared → Prop}
    (X : K.In s.heap) (I : PySem.W.InstAt s.heap x ox C od) (hs : PySem.W.findIn K (.ref C) name = some (some (.builtin id))) (hb : ∀ self, bindSpecial (.builtin id) self = pure (.builtin id, [self]))
    (h : wpAny M A (call (.builtin id) (.ref x :: args)) (fun v => Q (some v)) E s) : wpAny M A (callSpecialIfBound? (.ref x) name args) Q E s := by
  simp only [callSpecialIfBound?, bindSpecialIfBound?]
  refine wpAny_holding (wpAny_bind (wpAny_bind (wpAny_bind (I.type.here ((PySem.W.looks_findIn X hs).here ?_)))))
  refine wpAny_bind (wpAny_askSetting (wpAny_ite ?_))
  have fin : wpAny M A (call (.builtin id) ([.ref x] ++ args) >>= fun v => pure (some v)) Q E s := wpAny_bind (wpAny_mono h (fun v s' h' => wpAny_pure h') fun _ _ h' => h')
  split
  · exact wpAny_bind ((PySem.W.Looks.of_pure (hb _)).here (wpAny_pure (by exact fin)))
  · exact wpAny_tryCatch (wpAny_bind ((PySem.W.Looks.of_pure (hb _)).here (wpAny_pure (by exact fin))))
theorem ne_own {prog : Program} {w : World} {A : Around} {E : Value → Shared → Prop} {s : Shared} {K : PySem.W.Frag} {x C f : Addr} {ox : Obj} {od : Option Obj} {b tb : Value} {Q : Value → Shared → Prop}
    (hu : A.in1.units < cLine) (X : K.In s.heap) (I : PySem.W.InstAt s.heap x ox C od) (hb : PySem.W.Looks (model prog w) s.heap (typeOf b) tb) (hn : PySem.W.notFirst K C tb = true)
    (hne : PySem.W.findIn K (.ref C) "__ne__" = some (some (.builtin "object.__ne__"))) (hm : PySem.W.mroIn K C (.type "object") = some true)
    (he : PySem.W.findIn K (.ref C) "__eq__" = some (some (.ref f))) (hf : PySem.W.isFn K (.ref f) = true)
    (h : wpAny (model prog w) A.in1 (call (.ref f) [.ref x, b]) (fun v s' => ∃ c, v = .bool c ∧ Q (.bool (!c)) s') E s) : wpAny (model prog w) A (richCompare .NotEq (.ref x) b) Q E s := by
  have hu0 : A.units < cLine := Nat.lt_of_succ_lt (show A.units + 1 < cLine from hu)
  have one : wpAny (model prog w) A (tryCompare (.ref x) (cmpInfo .NotEq).2.1 b) (fun r s' => ∃ v, r = some v ∧ Q v s') E s := by
    unfold tryCompare
    refine wpAny_bind (ifBound_B X I hne PySem.F.slot_object_ne.bind ?_)
    refine wpAny_call (codeAny_call_builtin PySem.F.slot_object_ne.plain PySem.F.cmpEntry_ne (PySem.W.check_slot (i := "object.__ne__") (owner := "object") (n := "__ne__") (by decide +kernel) (by decide +kernel) (I.type.andThen (PySem.W.looks_mroIn X hm)) (PySem.F.cmpArgs_ne _ _) ?_))
    unfold Builtin.«object.__ne__»
    refine wpAny_bind (wpAny_pure ?_)
    refine wpAny_bind (m := cRoomFor _ _) (wpAny_cRoomFor hu ?_)
    refine wpAny_bind (m := callSpecialIfBound? (.ref x) (Str.ofString "__eq__") _) (PySem.W.ifBound_K X I he hf (wpAny_mono h (fun r s' hq => ?_) fun _ _ y => y))
    obtain ⟨c, rfl, hq⟩ := hq
    refine wpAny_bind (m := truthy (.bool _)) (wpAny_truthy_bool ?_)
    exact wpAny_pure (wpAny_pure ⟨_, rfl, hq⟩)
  unfold richCompare
  simp only [oneThing_ref]
  refine wpAny_holding (wpAny_bind (wpAny_cRoomFor hu0 ?_))
  refine wpAny_bind (I.type.here (wpAny_bind (hb.here ?_)))
  split
  · rename_i q
    have e : PySem.W.subIn K tb (.ref C) = some false := by
      rcases Bool.or_eq_true_iff.mp hn with e | e
      · rw [beq_iff_eq.mp e] at q; simp at q
      · exact beq_iff_eq.mp e
    refine wpAny_bind ((PySem.W.looks_subIn X e).here ?_)
    simp only [Bool.false_eq_true, if_false]
    refine wpAny_bind (wpAny_mono one (fun r s' z => ?_) fun _ _ e => e)
    obtain ⟨v, rfl, hq⟩ := z
    exact wpAny_pure hq
  · refine wpAny_bind (wpAny_pure ?_)
    simp only [Bool.false_eq_true, if_false]
    refine wpAny_bind (wpAny_mono one (fun r s' z => ?_) fun _ _ e => e)
    obtain ⟨v, rfl, hq⟩ := z
    exact wpAny_pure hq
/-- o != x by the class's own ==, where it has no != of its own -/
structure NoNe (K : PySem.W.Frag) (C : Addr) : Prop where
  ne : PySem.W.findIn K (.ref C) "__ne__" = some (some (.builtin "object.__ne__"))
  hm : PySem.W.mroIn K C (.type "object") = some true
def rNeO (K : PySem.W.Frag) (C : Addr) (sp : Sp) : R2 := fun x y H Q => ∃ a dx fs t, x = .ref a ∧ H a = some (.ins C dx fs) ∧ TyX K H y t ∧ PySem.W.notFirst K C t = true ∧ sp [x, y] H (fun v H' => ∃ b : Bool, v = .bl b ∧ Q (.bl (!b)) H') E0
theorem Method.ne (M : Method X.prog X.w X.K X.mg X.base CX0 k C "__eq__" D ps sp) (N : NoNe X.K C) (hr : Room j X.A) (hg : X.A.guards = some []) (hj : k + 1 ≤ j := by decide) : OpR X (compareOp .NotEq) (rNeO X.K C sp) := by
  obtain ⟨f, fd, c, hm, F, b, G⟩ := M.ex
  intro pins s σ H x y v u Q I rx ry h
  obtain ⟨a, dx, fs, t, rfl, ea, ty, hn, z⟩ := h
  obtain rfl : v = Value.ref a := rx
  obtain ⟨mA, O, _⟩ := ins_get I.hok ea
  obtain ⟨od, J, _⟩ := O.look
  obtain ⟨P, Z, p, hx⟩ := kit_of I ry ty
  have hr' : Room k X.A.in1 := (hr.mono hj).in1
  show wpAny (model X.prog X.w) X.A (richCompare .NotEq (.ref a) u) (EP X pins σ Q) X.xe s
  refine ne_own hr'.units0 I.kIn J (Z.ty _ _ I.kIn p) hn N.ne N.hm hm.at_ hm.fn ?_
  refine wpAny_mono (gcallA (vs := [V.ref a, y]) G hr' hg I.env0.in1 b I (.cons rfl (.cons ry .nil)) z) ?_ (fun _ _ e => e)
  rintro w s' ⟨v, H', I', rv, n, rfl, q⟩
  obtain rfl : w = Value.bool n := rv
  exact ⟨n, rfl, .bl (!n), H', I', rfl, q⟩
/-- f'{o}' -/
def tFmtO (C : Addr) (sp : Sp) (te : TE) : TE := fun σ H Q => te σ H fun x H1 => ∃ a dx fs, x = .ref a ∧ H1 a = some (.ins C dx fs) ∧ sp [x] H1 (fun v H' => ∃ z : Str, v = .str z ∧ Q (.str z) H') E0
theorem Method.fmt (M : Method X.prog X.w X.K X.mg X.base CX0 k C "__str__" D ps sp) (hf : PySem.W.findIn X.K (.ref C) "__format__" = some (some (.builtin "object.__format__"))) (ho : PySem.W.mroIn X.K C (.type "object") = some true)
    {e : Expr} {te : TE} {pos : Pos} (he : PE X e te) (hr : Room j X.A) (hg : X.A.guards = some []) (hj : k + 1 ≤ j := by decide) : PE X (.FormattedValue e (-1) none pos) (tFmtO C sp te) := by
  obtain ⟨f, fd, c, hm, F, b, G⟩ := M.ex
  constructor
  intro pins s σ H Q I h
  refine wpAny_FormattedValue_plain (thn (he.run pins s σ H _ I h) ?_)
  rintro v s1 ⟨x, H1, I1, r1, a, dx, fs, rfl, ea, z⟩
  obtain rfl : v = Value.ref a := r1
  obtain ⟨mA, O, _⟩ := ins_get I1.hok ea
  obtain ⟨od, J, _⟩ := O.look
  have hr' : Room k X.A.in1 := (hr.mono hj).in1
  refine PySem.W.kfo_fieldS hr'.units0 I1.kIn J hf ho hm.at_ hm.fn ?_
  have I2 := I1.tok (s1.toks + 1)
  refine wpAny_mono (gcallA (vs := [V.ref a]) G hr' hg I2.env0.in1 b I2 (.cons rfl .nil) z) ?_ (fun _ _ e => e)
  rintro w s' ⟨v, H', I', rv, n, rfl, q⟩
  obtain ⟨t, rfl⟩ := (show ∃ t, w = Value.str n t from rv)
  exact ⟨.str n, H', I', ⟨_, rfl⟩, q⟩
end

/-! ### x == o with x of a built-in kind: the class's own == is asked behind -/
theorem str_eq_no (b : Str) (u : Tok) (l : Addr) (o : Obj) (c : Value) (hd : o.data = .plain) (hc : o.cls = c) :
    Meets (Builtin.«str.__eq__» ⟨[.str b u, .ref l], []⟩) (fun _ R s => s.heap.get? l = some o ∧ R (.ok (.ret .notImplemented)) s) :=
  .of_wp fun prog w A R s h => by obtain ⟨hp, g, d, tk, os⟩ := s; obtain ⟨oc, od, dt, sl⟩ := o; cases hd; obtain ⟨hl, h⟩ := h; wp_walk using wpAny_loadPart' hl, wpAny_load hl; exact ⟨_, rfl, h⟩
theorem int_eq_no (b : Int) (u : Tok) (l : Addr) (o : Obj) (c : Value) (hd : o.data = .plain) (hc : o.cls = c) :
    Meets (Builtin.«int.__eq__» ⟨[.int b u, .ref l], []⟩) (fun _ R s => s.heap.get? l = some o ∧ R (.ok (.ret .notImplemented)) s) :=
  .of_wp fun prog w A R s h => by obtain ⟨hp, g, d, tk, os⟩ := s; obtain ⟨oc, od, dt, sl⟩ := o; cases hd; obtain ⟨hl, h⟩ := h; wp_walk using wpAny_loadPart' hl, wpAny_load hl; exact ⟨_, rfl, h⟩
theorem bool_eq_no (b : Bool) (l : Addr) (o : Obj) (c : Value) (hd : o.data = .plain) (hc : o.cls = c) :
    Meets (Builtin.«int.__eq__» ⟨[.bool b, .ref l], []⟩) (fun _ R s => s.heap.get? l = some o ∧ R (.ok (.ret .notImplemented)) s) :=
  .of_wp fun prog w A R s h => by obtain ⟨hp, g, d, tk, os⟩ := s; obtain ⟨oc, od, dt, sl⟩ := o; cases hd; obtain ⟨hl, h⟩ := h; wp_walk using wpAny_loadPart' hl, wpAny_load hl; exact ⟨_, rfl, h⟩
section
variable {prog : Program} {w : World} {A : Around} {E : Value → Shared → Prop} {s : Shared} {K : PySem.W.Frag} {x C f : Addr} {ox : Obj} {od : Option Obj}
/-- a: of a built-in kind whose == declines -/
theorem refl_own {a : Value} {Ta ida : String} {Q : Value → Shared → Prop} (ha : s.TypeIs a Ta) (hu : A.units < cLine) (X : K.In s.heap) (I : PySem.W.InstAt s.heap x ox C od) (hsub : PySem.W.subIn K (.ref C) (.type Ta) = some false)
    (h1 : Slot Ta (cmpInfo .Eq).2.1 ida) (hc1 : ∀ Q' : Value → Shared → Prop, Q' .notImplemented s → wpAny (model prog w) A (call (.builtin ida) [a, .ref x]) Q' E s)
    (he : PySem.W.findIn K (.ref C) "__eq__" = some (some (.ref f))) (hf : PySem.W.isFn K (.ref f) = true)
    (h : wpAny (model prog w) A (call (.ref f) [.ref x, a]) (PySem.W.CmpBack Q) E s) : wpAny (model prog w) A (richCompare .Eq a (.ref x)) Q E s := by
  have two : wpAny (model prog w) A (tryCompare (.ref x) (cmpInfo .Eq).2.2 a) (fun r s' => ∃ v, r = some v ∧ Q v s') E s := by
    unfold tryCompare
    refine wpAny_bind (PySem.W.ifBound_K X I he hf (wpAny_mono h (fun v s' hv => ?_) fun _ _ e => e))
    cases v <;> first | exact hv.elim | exact wpAny_pure ⟨_, rfl, hv⟩
  unfold richCompare
  simp only [ha.oneThing_none]
  refine wpAny_holding (wpAny_bind (wpAny_cRoomFor hu ?_))
  refine wpAny_bind (wpAny_typeOf ha (wpAny_bind (I.type.here ?_)))
  rw [show (Value.type Ta != Value.ref C) = true from by simp]
  simp only [if_true]
  refine wpAny_bind ((PySem.W.looks_subIn X hsub).here ?_)
  simp only [Bool.false_eq_true, if_false, Bool.not_false, if_true]
  refine wpAny_bind (m := tryCompare a _ (.ref x)) (wpAny_tryCompare_declines ha h1 (hc1 _ ⟨rfl, ?_⟩))
  refine wpAny_bind (wpAny_mono two (fun r s' z => ?_) fun _ _ e => e)
  obtain ⟨v, rfl, hq⟩ := z
  exact wpAny_pure hq
end
theorem tup_eq_no (t x : Addr) :
    Meets (Builtin.«tuple.__eq__» ⟨[.ref t, .ref x], []⟩) (fun _ R s => (∃ (K : PySem.W.Frag) (C : Addr) (ox : Obj) (od : Option Obj), K.In s.heap ∧ PySem.W.InstAt s.heap x ox C od ∧ PySem.W.subIn K (.ref C) (.type "tuple") = some false) ∧ R (.ok (.ret .notImplemented)) s) :=
  .of_wp fun prog w A R s h => by
    obtain ⟨⟨K, C, ox, od, X, I, hs⟩, h⟩ := h
    unfold Builtin.«tuple.__eq__»
    refine wpAny_bind (wpAny_pure ?_)
    refine wpAny_bind (m := isInstance (.ref x) (.type "tuple")) (wpAny_bind (I.type.here ((PySem.W.looks_subIn X hs).here ?_)))
    first
      | exact wpAny_pure ⟨_, rfl, h⟩
      | (rw [if_pos rfl]; exact wpAny_pure ⟨_, rfl, h⟩)
      | (simp only [Bool.not_false, if_true]; exact wpAny_pure ⟨_, rfl, h⟩)
      | (refine wpAny_bind ?_; rw [if_pos rfl]; exact wpAny_pure (wpAny_pure ⟨_, rfl, h⟩))
theorem lst_eq_no (t x : Addr) :
    Meets (Builtin.«list.__eq__» ⟨[.ref t, .ref x], []⟩) (fun _ R s => (∃ (K : PySem.W.Frag) (C : Addr) (ox : Obj) (od : Option Obj), K.In s.heap ∧ PySem.W.InstAt s.heap x ox C od ∧ PySem.W.subIn K (.ref C) (.type "list") = some false) ∧ R (.ok (.ret .notImplemented)) s) :=
  .of_wp fun prog w A R s h => by
    obtain ⟨⟨K, C, ox, od, X, I, hs⟩, h⟩ := h
    unfold Builtin.«list.__eq__»
    refine wpAny_bind (wpAny_pure ?_)
    refine wpAny_bind (m := isInstance (.ref x) (.type "list")) (wpAny_bind (I.type.here ((PySem.W.looks_subIn X hs).here ?_)))
    first
      | exact wpAny_pure ⟨_, rfl, h⟩
      | (rw [if_pos rfl]; exact wpAny_pure ⟨_, rfl, h⟩)
      | (simp only [Bool.not_false, if_true]; exact wpAny_pure ⟨_, rfl, h⟩)
      | (refine wpAny_bind ?_; rw [if_pos rfl]; exact wpAny_pure (wpAny_pure ⟨_, rfl, h⟩))
/-- what the written part says: the class is below no built-in kind but object -/
structure Refl (K : PySem.W.Frag) (C : Addr) : Prop where
  str : PySem.W.subIn K (.ref C) (.type "str") = some false
  int : PySem.W.subIn K (.ref C) (.type "int") = some false
  bool : PySem.W.subIn K (.ref C) (.type "bool") = some false
  none : PySem.W.subIn K (.ref C) (.type "NoneType") = some false
  tup : PySem.W.subIn K (.ref C) (.type "tuple") = some false
  lst : PySem.W.subIn K (.ref C) (.type "list") = some false
def plainV : V → Prop
  | .str _ | .int _ | .bl _ | .non => True
  | _ => False
def rReqO (K : PySem.W.Frag) (C : Addr) (sp : Sp) : R2 := fun x y H Q => ∃ a dx fs, y = .ref a ∧ (plainV x ∨ (∃ t xs, x = .ref t ∧ SqT K H t xs) ∨ ∃ t xs, x = .ref t ∧ SqL K H t xs) ∧ H a = some (.ins C dx fs) ∧ sp [y, x] H (fun v H' => ∃ b : Bool, v = .bl b ∧ Q (.bl b) H') E0
section
variable {X : Cx} {j k : Nat} {C : Addr} {D : Addr → FuncData → Prop} {ps : List Str} {sp : Sp}
theorem Method.req (M : Method X.prog X.w X.K X.mg X.base CX0 k C "__eq__" D ps sp) (R : Refl X.K C) (hr : Room j X.A) (hg : X.A.guards = some []) (hj : k ≤ j := by decide) : OpR X (compareOp .Eq) (rReqO X.K C sp) := by
  obtain ⟨f, fd, c, hm, F, b, G⟩ := M.ex
  intro pins s σ H x y v u Q I rx ry h
  obtain ⟨a, dx, fs, rfl, hp, ea, z⟩ := h
  obtain rfl : u = Value.ref a := ry
  obtain ⟨mA, O, _⟩ := ins_get I.hok ea
  obtain ⟨od, J, _⟩ := O.look
  have hc : wpAny (model X.prog X.w) X.A (call (.ref f) [.ref a, v]) (PySem.W.CmpBack (EP X pins σ Q)) X.xe s := by
    refine wpAny_mono (gcallA (vs := [V.ref a, x]) G (hr.mono hj) hg I.env0 b I (.cons rfl (.cons rx .nil)) z) ?_ (fun _ _ e => e)
    rintro w s' ⟨v, H', I', rv, n, rfl, q⟩
    obtain rfl : w = Value.bool n := rv
    exact ⟨.bl n, H', I', rfl, q⟩
  show wpAny (model X.prog X.w) X.A (richCompare .Eq v (.ref a)) (EP X pins σ Q) X.xe s
  rcases hp with hp | ⟨t, xs, rfl, ht⟩ | ⟨t, xs, rfl, ht⟩
  rotate_left
  · obtain rfl : v = Value.ref t := rx
    obtain ⟨its, r, ht', hz⟩ := I.tuple ht
    exact refl_own ht'.typeIs hr.units0 I.kIn J R.tup PySem.F.slot_tuple_eq (fun Q' hq => call_meets PySem.F.slot_tuple_eq ht'.typeIs PySem.F.entry_tuple_eq (PySem.F.args_tuple_eq_2 _ _) (tup_eq_no _ _) ⟨⟨_, C, _, _, I.kIn, J, R.tup⟩, hq⟩) hm.at_ hm.fn hc
  · obtain rfl : v = Value.ref t := rx
    obtain ⟨its, r, ⟨lo, ln, lg, lc, _, _⟩, hz⟩ := I.list ht
    have hl : s.TypeIs (.ref t) "list" := ⟨lo, lg, lc⟩
    exact refl_own hl hr.units0 I.kIn J R.lst PySem.F.slot_list_eq (fun Q' hq => call_meets PySem.F.slot_list_eq hl PySem.F.entry_list_eq (PySem.F.args_list_eq_2 _ _) (lst_eq_no _ _) ⟨⟨_, C, _, _, I.kIn, J, R.lst⟩, hq⟩) hm.at_ hm.fn hc
  cases x with
  | str y =>
    obtain ⟨t, rfl⟩ := (show ∃ t, v = Value.str y t from rx)
    exact refl_own (typeIs_str _ _ _) hr.units0 I.kIn J R.str PySem.F.slot_str_eq (fun Q' hq => call_meets PySem.F.slot_str_eq (typeIs_str _ _ _) PySem.F.entry_str_eq (PySem.F.args_str_eq_2 _ _) (str_eq_no _ _ _ _ _ rfl rfl) ⟨J.at_, hq⟩) hm.at_ hm.fn hc
  | int y =>
    obtain ⟨t, rfl⟩ := (show ∃ t, v = Value.int y t from rx)
    exact refl_own (typeIs_int _ _ _) hr.units0 I.kIn J R.int PySem.F.slot_int_eq (fun Q' hq => call_meets PySem.F.slot_int_eq (typeIs_int _ _ _) PySem.F.entry_int_eq (PySem.F.args_int_eq_2 _ _) (int_eq_no _ _ _ _ _ rfl rfl) ⟨J.at_, hq⟩) hm.at_ hm.fn hc
  | bl y =>
    obtain rfl : v = Value.bool y := rx
    exact refl_own (Ta := "bool") rfl hr.units0 I.kIn J R.bool PySem.F.slot_bool_eq (fun Q' hq => call_meets PySem.F.slot_bool_eq rfl PySem.F.entry_int_eq (PySem.F.args_int_eq_2 _ _) (bool_eq_no _ _ _ _ rfl rfl) ⟨J.at_, hq⟩) hm.at_ hm.fn hc
  | non =>
    obtain rfl : v = Value.none := rx
    exact refl_own (Ta := "NoneType") rfl hr.units0 I.kIn J R.none PySem.F.slot_NoneType_eq (fun Q' hq => call_gives PySem.F.slot_NoneType_eq rfl PySem.F.entry_NoneType_eq (PySem.F.args_NoneType_eq_2 _ _) (PySem.SeqAt.NoneType___eq___none_ref_0 _) hq) hm.at_ hm.fn hc
  | _ => exact hp.elim
end
section
variable {X : Cx} {x : Str} {p : Pos}
theorem pe_globS {z : Str} (hg : Gl X x) (h : ∃ t, X.mg x = some (.str z t)) (hdb : (x == ("__debug__" : Str)) = false := by decide) : PE X (.Name x p) (tC (.str z)) := let ⟨_, e⟩ := h; pe_glob hg e ⟨_, rfl⟩ hdb
theorem pe_globI {z : Int} (hg : Gl X x) (h : ∃ t, X.mg x = some (.int z t)) (hdb : (x == ("__debug__" : Str)) = false := by decide) : PE X (.Name x p) (tC (.int z)) := let ⟨_, e⟩ := h; pe_glob hg e ⟨_, rfl⟩ hdb
end
/-- format of an own class -/
structure Fmt (K : PySem.W.Frag) (C : Addr) : Prop where
  fm : PySem.W.findIn K (.ref C) "__format__" = some (some (.builtin "object.__format__"))
  hm : PySem.W.mroIn K C (.type "object") = some true
end Lay

set_option Elab.async false
set_option linter.all false
set_option maxRecDepth 100000
set_option maxHeartbeats 2000000
namespace Lay
open PySem PySem.Spec PyProof.Rows L2

/-! ### values as trees -/
inductive D where
  | non | bl (b : Bool) | int (i : Int) | str (z : Str) | adr (a : Addr) | ty (n : String)
  | tup (ds : List D) | lst (ds : List D) | rol (ds : List D) | ins (C : Addr) (ns : List Str) (ds : List D) | exn (C : Addr) (ns : List Str) (ds : List D) | dic (ks : List Key) (ds : List D)

def LstAt (K : PySem.W.Frag) (N : Addr → Prop) (H : Hp) (a : Addr) (vs : List V) : Prop := (¬ N a ∧ Rd H a (.lst vs)) ∨ SqL K (fun _ => none) a vs
def TupAt (K : PySem.W.Frag) (N : Addr → Prop) (H : Hp) (a : Addr) (vs : List V) : Prop := (¬ N a ∧ Rd H a (.tup vs)) ∨ SqT K (fun _ => none) a vs
/-- an own exception of the class C at a, its dict od -/
def ExT (C : Addr) (od : Option Addr) (a : Addr) : HO := .ext fun h => ∃ oe, h.get? a = some oe ∧ Zc (.ref C) od oe ∧ ∃ vs, oe.data = .fields vs
theorem exT_ok {P : Program} {w : World} {H : Hp} {h : Heap} {a C : Addr} {od : Option Addr} {oe : Obj} (e : h.get? a = some oe) (z : Zc (.ref C) od oe) (d : ∃ vs, oe.data = .fields vs) : ObjOk P w H h a (ExT C od a) :=
  ⟨⟨oe, e, z, d⟩, ⟨oe, e⟩, fun _ _ ⟨o, q, r⟩ k => ⟨o, k o q, r⟩⟩
mutual
def Rep (K : PySem.W.Frag) (N : Addr → Prop) (H : Hp) : D → V → Prop
  | .non, v => v = .non
  | .bl b, v => v = .bl b
  | .int i, v => v = .int i
  | .str z, v => v = .str z
  | .adr a, v => v = .ref a
  | .ty n, v => v = .ty n
  | .tup ds, v => ∃ a vs, v = .ref a ∧ TupAt K N H a vs ∧ Reps K N H ds vs
  | .lst ds, v => ∃ a vs, v = .ref a ∧ ¬ N a ∧ H a = some (.lst vs) ∧ Reps K N H ds vs
  | .rol ds, v => ∃ a vs, v = .ref a ∧ LstAt K N H a vs ∧ Reps K N H ds vs
  | .ins C ns ds, v => ∃ a dx vs, v = .ref a ∧ ¬ N a ∧ H a = some (.ins C dx (ns.zip vs)) ∧ ns.length = ds.length ∧ Reps K N H ds vs
  | .exn C ns ds, v => ∃ a od vs, v = .ref a ∧ ¬ N a ∧ H a = some (ExT C od a) ∧ ns.length = ds.length ∧ (∀ dd, od = some dd → ¬ N dd ∧ H dd = some (.xd (ns.zip vs).reverse)) ∧ (od = none → ns = []) ∧ Reps K N H ds vs
  | .dic ks ds, v => ∃ a o vs, v = .ref a ∧ ¬ N a ∧ H a = some (.frz o (.dK (ks.zip vs))) ∧ ks.length = ds.length ∧ Reps K N H ds vs
def Reps (K : PySem.W.Frag) (N : Addr → Prop) (H : Hp) : List D → List V → Prop
  | [], vs => vs = []
  | d :: ds, vs => ∃ v r, vs = v :: r ∧ Rep K N H d v ∧ Reps K N H ds r
end
/-- from one world to a later one -/
structure Ext (N : Addr → Prop) (H : Hp) (N' : Addr → Prop) (H' : Hp) : Prop where
  st : ∀ a o, H a = some o → ¬ N a → H' a = some o
  nw : ∀ a, N' a → N a ∨ H a = none
section
variable {K : PySem.W.Frag} {N N' : Addr → Prop} {H H' : Hp}
theorem Ext.not (e : Ext N H N' H') {a : Addr} {o : HO} (h : H a = some o) (n : ¬ N a) : ¬ N' a := fun z => by
  rcases e.nw a z with q | q
  · exact n q
  · rw [q] at h; cases h
theorem Ext.rd (e : Ext N H N' H') {a : Addr} {u : HO} (n : ¬ N a) (h : Rd H a u) : ¬ N' a ∧ Rd H' a u := by
  rcases h with h | ⟨o, h⟩
  · exact ⟨e.not h n, .inl (e.st _ _ h n)⟩
  · exact ⟨e.not h n, .inr ⟨o, e.st _ _ h n⟩⟩
mutual
theorem Rep.mono (e : Ext N H N' H') : ∀ (d : D) (v : V), Rep K N H d v → Rep K N' H' d v
  | .non, v, h | .bl _, v, h | .int _, v, h | .str _, v, h | .adr _, v, h | .ty _, v, h => by simpa only [Rep] using h
  | .tup ds, v, h => by
    rw [Rep] at h ⊢
    obtain ⟨a, vs, h1, h2, h3⟩ := h
    refine ⟨a, vs, h1, ?_, Reps.mono e ds vs h3⟩
    rcases h2 with ⟨n, h2⟩ | h2
    · exact .inl (e.rd n h2)
    · exact .inr h2
  | .rol ds, v, h => by
    rw [Rep] at h ⊢
    obtain ⟨a, vs, h1, h2, h3⟩ := h
    refine ⟨a, vs, h1, ?_, Reps.mono e ds vs h3⟩
    rcases h2 with ⟨n, h2⟩ | h2
    · exact .inl (e.rd n h2)
    · exact .inr h2
  | .lst ds, v, h => by
    rw [Rep] at h ⊢
    obtain ⟨a, vs, h1, h2, h3, h4⟩ := h
    exact ⟨a, vs, h1, e.not h3 h2, e.st _ _ h3 h2, Reps.mono e ds vs h4⟩
  | .ins C ns ds, v, h => by
    rw [Rep] at h ⊢
    obtain ⟨a, dx, vs, h1, h2, h3, h4, h5⟩ := h
    exact ⟨a, dx, vs, h1, e.not h3 h2, e.st _ _ h3 h2, h4, Reps.mono e ds vs h5⟩
  | .exn C ns ds, v, h => by
    rw [Rep] at h ⊢
    obtain ⟨a, od, vs, h1, h2, h3, h4, h5, h6, h7⟩ := h
    exact ⟨a, od, vs, h1, e.not h3 h2, e.st _ _ h3 h2, h4, fun dd q => ⟨e.not (h5 dd q).2 (h5 dd q).1, e.st _ _ (h5 dd q).2 (h5 dd q).1⟩, h6, Reps.mono e ds vs h7⟩
  | .dic ks ds, v, h => by
    rw [Rep] at h ⊢
    obtain ⟨a, o, vs, h1, h2, h3, h4, h5⟩ := h
    exact ⟨a, o, vs, h1, e.not h3 h2, e.st _ _ h3 h2, h4, Reps.mono e ds vs h5⟩
theorem Reps.mono (e : Ext N H N' H') : ∀ (ds : List D) (vs : List V), Reps K N H ds vs → Reps K N' H' ds vs
  | [], vs, h => by simpa only [Reps] using h
  | d :: ds, vs, h => by
    rw [Reps] at h ⊢
    obtain ⟨v, r, h1, h2, h3⟩ := h
    exact ⟨v, r, h1, Rep.mono e d v h2, Reps.mono e ds r h3⟩
end
theorem Reps.length : ∀ {ds : List D} {vs : List V}, Reps K N H ds vs → ds.length = vs.length
  | [], vs, h => by rw [Reps] at h; subst h; rfl
  | d :: ds, vs, h => by
    rw [Reps] at h
    obtain ⟨v, r, rfl, h2, h3⟩ := h
    rw [List.length_cons, List.length_cons, Reps.length h3]
theorem Reps.get : ∀ {ds : List D} {vs : List V} {i : Nat} {d : D}, Reps K N H ds vs → ds[i]? = some d → ∃ v, vs[i]? = some v ∧ Rep K N H d v
  | [], vs, i, d, h, e => by simp at e
  | d :: ds, vs, 0, d', h, e => by
    rw [Reps] at h
    obtain ⟨v, r, rfl, h2, h3⟩ := h
    simp at e; subst e
    exact ⟨v, rfl, h2⟩
  | d :: ds, vs, i + 1, d', h, e => by
    rw [Reps] at h
    obtain ⟨v, r, rfl, h2, h3⟩ := h
    obtain ⟨w, h4, h5⟩ := Reps.get (i := i) (d := d') h3 (by simpa using e)
    exact ⟨w, by simpa using h4, h5⟩
theorem Reps.nil : Reps K N H [] [] := by rw [Reps]
theorem Reps.cons {d : D} {v : V} {ds : List D} {vs : List V} (h : Rep K N H d v) (t : Reps K N H ds vs) : Reps K N H (d :: ds) (v :: vs) := by rw [Reps]; exact ⟨v, vs, rfl, h, t⟩
theorem Reps.append : ∀ {ds es : List D} {vs ws : List V}, Reps K N H ds vs → Reps K N H es ws → Reps K N H (ds ++ es) (vs ++ ws)
  | [], es, vs, ws, h, t => by rw [Reps] at h; subst h; exact t
  | d :: ds, es, vs, ws, h, t => by
    rw [Reps] at h
    obtain ⟨v, r, rfl, h2, h3⟩ := h
    exact .cons h2 (Reps.append h3 t)
theorem Reps.take : ∀ {ds : List D} {vs : List V} (n : Nat), Reps K N H ds vs → Reps K N H (ds.take n) (vs.take n)
  | ds, vs, 0, h => .nil
  | [], vs, n + 1, h => by rw [Reps] at h; subst h; exact .nil
  | d :: ds, vs, n + 1, h => by
    rw [Reps] at h
    obtain ⟨v, r, rfl, h2, h3⟩ := h
    exact .cons h2 (Reps.take n h3)
theorem Reps.drop : ∀ {ds : List D} {vs : List V} (n : Nat), Reps K N H ds vs → Reps K N H (ds.drop n) (vs.drop n)
  | ds, vs, 0, h => h
  | [], vs, n + 1, h => by rw [Reps] at h; subst h; exact .nil
  | d :: ds, vs, n + 1, h => by
    rw [Reps] at h
    obtain ⟨v, r, rfl, h2, h3⟩ := h
    exact Reps.drop n h3
theorem Reps.reverse : ∀ {ds : List D} {vs : List V}, Reps K N H ds vs → Reps K N H ds.reverse vs.reverse
  | [], vs, h => by rw [Reps] at h; subst h; exact .nil
  | d :: ds, vs, h => by
    rw [Reps] at h
    obtain ⟨v, r, rfl, h2, h3⟩ := h
    rw [List.reverse_cons, List.reverse_cons]
    exact (Reps.reverse h3).append (.cons h2 .nil)
theorem Reps.ints {ns : List Int} : Reps K N H (ns.map D.int) (ns.map V.int) := by
  induction ns with
  | nil => exact .nil
  | cons n ns ih => exact .cons (by rw [Rep]) ih
theorem Reps.strs {ns : List Str} : Reps K N H (ns.map D.str) (ns.map V.str) := by
  induction ns with
  | nil => exact .nil
  | cons n ns ih => exact .cons (by rw [Rep]) ih
theorem Reps.toStrs {ns : List Str} {vs : List V} (h : Reps K N H (ns.map D.str) vs) : vs = ns.map V.str := by
  induction ns generalizing vs with
  | nil => rwa [List.map_nil, Reps] at h
  | cons n ns ih =>
    rw [List.map_cons, Reps] at h
    obtain ⟨v, r, rfl, h2, h3⟩ := h
    rw [Rep] at h2
    rw [h2, ih h3]; rfl
theorem LstAt.sq {a : Addr} {vs : List V} (h : LstAt K N H a vs) : SqL K H a vs := by
  rcases h with ⟨_, h⟩ | h | h
  · exact .inl h
  · rcases h with h | ⟨_, h⟩ <;> cases h
  · exact .inr h
theorem TupAt.sq {a : Addr} {vs : List V} (h : TupAt K N H a vs) : SqT K H a vs := by
  rcases h with ⟨_, h⟩ | h | h
  · exact .inl h
  · rcases h with h | ⟨_, h⟩ <;> cases h
  · exact .inr h
end

/-! ### the pot -/
def PotAt (H : Hp) (a : Addr) (c : Int) : Prop := ∃ z0 z1 z2 : Int, H a = some (.lst [.int z0, .int z1, .int z2]) ∧ 0 ≤ z0 ∧ 0 ≤ z1 ∧ z1 < 2305843009313693951 ∧ 0 ≤ z2 ∧ z2 ≤ c
/-- what may be changed by whoever knows its address -/
inductive Cell where
  | lst (ds : List D) | dic (ks : List Key) (ds : List D)
abbrev Mem := Addr → Option Cell
abbrev m0 : Mem := fun _ => none
structure Z where
  p : Option Addr
  c : Int
  m : Mem
def Z.has (z : Z) (a : Addr) : Prop := z.p = some a ∨ ∃ c, z.m a = some c
def CellOk (K : PySem.W.Frag) (N : Addr → Prop) (H : Hp) (a : Addr) : Cell → Prop
  | .lst ds => ∃ vs, H a = some (.lst vs) ∧ Reps K N H ds vs
  | .dic ks ds => ∃ vs, H a = some (.dK (ks.zip vs)) ∧ ks.length = ds.length ∧ Reps K N H ds vs
structure PotOk (K : PySem.W.Frag) (N : Addr → Prop) (H : Hp) (z : Z) : Prop where
  pt : ∀ a, z.p = some a → PotAt H a z.c ∧ z.m a = none
  mm : ∀ a c, z.m a = some c → CellOk K N H a c
theorem PotAt.ne {H : Hp} {a : Addr} {c : Int} (h : PotAt H a c) : H a ≠ none := by
  obtain ⟨_, _, _, h, _⟩ := h
  rw [h]; exact Option.some_ne_none _
theorem PotAt.to {H H' : Hp} {a : Addr} {c : Int} (h : PotAt H a c) (e : ∀ o, H a = some o → H' a = some o) : PotAt H' a c :=
  let ⟨z0, z1, z2, h1, h2⟩ := h
  ⟨z0, z1, z2, e _ h1, h2⟩
theorem CellOk.ne {K : PySem.W.Frag} {N : Addr → Prop} {H : Hp} {a : Addr} : ∀ {c : Cell}, CellOk K N H a c → H a ≠ none
  | .lst _, ⟨_, h, _⟩ | .dic _ _, ⟨_, h, _⟩ => by rw [h]; exact Option.some_ne_none _
theorem CellOk.mono {K : PySem.W.Frag} {N N' : Addr → Prop} {H H' : Hp} {a : Addr} (e : Ext N H N' H') (k : ∀ o, H a = some o → H' a = some o) : ∀ {c : Cell}, CellOk K N H a c → CellOk K N' H' a c
  | .lst _, ⟨vs, h, r⟩ => ⟨vs, k _ h, Reps.mono e _ _ r⟩
  | .dic _ _, ⟨vs, h, l, r⟩ => ⟨vs, k _ h, l, Reps.mono e _ _ r⟩
theorem PotOk.ne {K : PySem.W.Frag} {N : Addr → Prop} {H : Hp} {z : Z} (p : PotOk K N H z) {a : Addr} (h : z.has a) : H a ≠ none := by
  rcases h with h | ⟨c, h⟩
  · exact (p.pt a h).1.ne
  · exact (p.mm a c h).ne
theorem PotOk.to {K : PySem.W.Frag} {N N' : Addr → Prop} {H H' : Hp} {z : Z} (p : PotOk K N H z) (e : Ext N H N' H') (k : ∀ a o, z.has a → H a = some o → H' a = some o) : PotOk K N' H' z :=
  ⟨fun a h => ⟨(p.pt a h).1.to fun o q => k a o (.inl h) q, (p.pt a h).2⟩, fun a c h => (p.mm a c h).mono e fun o q => k a o (.inr ⟨c, h⟩) q⟩

/-! ### the slots -/
inductive Sl where
  | any | val (d : D) | own (ds : List D) | obj (x C : Addr) (ns : List Str) (ds : List D) | exc (a : Addr) (od : Option Addr) (ns : List Str) (ds : List D) | ownA (a : Addr) (ds : List D) | dicA (a : Addr) (ks : List Key) (ds : List D) | lck (a : Addr) (d : D)
def NN (M : Addr → Prop) (z : Z) (O : Nat → Option Addr) : Addr → Prop := fun a => M a ∨ z.has a ∨ ∃ i, O i = some a
def ExAt (K : PySem.W.Frag) (N : Addr → Prop) (H : Hp) : Option Addr → List Str → List D → Prop
  | none, ns, ds => ns = [] ∧ ds = []
  | some d, ns, ds => ¬ N d ∧ ns.length = ds.length ∧ ∃ vs, H d = some (.xd (ns.zip vs).reverse) ∧ Reps K N H ds vs
def SlotOk (K : PySem.W.Frag) (N : Addr → Prop) (H : Hp) (ov : Option V) (s : Sl) (oa : Option Addr) : Prop := match s with
  | .any => oa = none
  | .val d => oa = none ∧ ∃ v, ov = some v ∧ Rep K N H d v
  | .own ds => ∃ a vs, oa = some a ∧ ov = some (.ref a) ∧ H a = some (.lst vs) ∧ Reps K N H ds vs
  | .obj x C ns ds => ∃ a dx vs, oa = some a ∧ a = x ∧ ov = some (.ref a) ∧ H a = some (.ins C dx (ns.zip vs)) ∧ ns.length = ds.length ∧ Reps K N H ds vs
  | .exc a od ns ds => oa = none ∧ ov = some (.ref a) ∧ ExAt K N H od ns ds
  | .ownA a ds => ∃ vs, oa = some a ∧ H a = some (.lst vs) ∧ Reps K N H ds vs
  | .dicA a ks ds => ∃ vs, oa = some a ∧ ov = some (.ref a) ∧ H a = some (.dK (ks.zip vs)) ∧ ks.length = ds.length ∧ Reps K N H ds vs
  | .lck a d => oa = none ∧ ov = some (.ref a) ∧ Rep K N H d (.ref a)
theorem ExAt.mono {K : PySem.W.Frag} {N N' : Addr → Prop} {H H' : Hp} (e : Ext N H N' H') : ∀ {od : Option Addr} {ns : List Str} {ds : List D}, ExAt K N H od ns ds → ExAt K N' H' od ns ds
  | none, _, _, h => h
  | some d, ns, ds, ⟨n, l, vs, h, r⟩ => ⟨e.not h n, l, vs, e.st _ _ h n, Reps.mono e _ _ r⟩
structure Wd (K : PySem.W.Frag) (M : Addr → Prop) (H : Hp) (σ : L2.St) (ρ : List Sl) (z : Z) (O : Nat → Option Addr) : Prop where
  len : σ.length = ρ.length
  al : ∀ a, M a → H a ≠ none
  pot : PotOk K (NN M z O) H z
  pm : ∀ a, z.has a → ¬ M a
  ow : ∀ i a, O i = some a → ¬ M a ∧ ¬ z.has a ∧ H a ≠ none ∧ ∀ j, O j = some a → j = i
  sl : ∀ i s, ρ[i]? = some s → SlotOk K (NN M z O) H (σ[i]?.join) s (O i)
  out : ∀ i, ρ[i]? = none → O i = none
/-- what a statement leaves of the world -/
structure Go (M : Addr → Prop) (H : Hp) (z : Z) (O : Nat → Option Addr) (H' : Hp) (z' : Z) (O' : Nat → Option Addr) : Prop where
  st : ∀ a o, H a = some o → ¬ NN M z O a → H' a = some o
  km : ∀ a o, M a → H a = some o → H' a = some o
  nw : ∀ a, NN M z' O' a → NN M z O a ∨ H a = none
  zp : ∀ a, z'.has a → z.has a ∨ H a = none
  al : ∀ a, H a ≠ none → H' a ≠ none
/-- .. an expression -/
structure GoE (M : Addr → Prop) (H : Hp) (z : Z) (O : Nat → Option Addr) (H' : Hp) (z' : Z) (O' : Nat → Option Addr) : Prop extends Go M H z O H' z' O' where
  fx : ∀ a o, H a = some o → ¬ z.has a → H' a = some o
section
variable {K : PySem.W.Frag} {M : Addr → Prop} {H H' H1 H2 : Hp} {σ : L2.St} {ρ : List Sl} {z z' z1 z2 : Z} {O O' O1 O2 : Nat → Option Addr}
theorem Go.ext (g : Go M H z O H' z' O') : Ext (NN M z O) H (NN M z' O') H' := ⟨g.st, g.nw⟩
theorem Go.refl : Go M H z O H z O := ⟨fun _ _ h _ => h, fun _ _ _ h => h, fun _ h => .inl h, fun _ h => .inl h, fun _ h => h⟩
theorem GoE.refl : GoE M H z O H z O := ⟨Go.refl, fun _ _ h _ => h⟩
theorem Go.trans (g : Go M H z O H1 z1 O1) (k : Go M H1 z1 O1 H2 z2 O2) : Go M H z O H2 z2 O2 where
  st := fun a o h n => k.st a o (g.st a o h n) (g.ext.not h n)
  km := fun a o m h => k.km a o m (g.km a o m h)
  nw := fun a h => by
    rcases k.nw a h with q | q
    · exact g.nw a q
    · refine .inr (Classical.byContradiction fun n => g.al a n q)
  zp := fun a h => by
    rcases k.zp a h with q | q
    · exact g.zp a q
    · refine .inr (Classical.byContradiction fun n => g.al a n q)
  al := fun a h => k.al a (g.al a h)
theorem GoE.trans (g : GoE M H z O H1 z1 O1) (k : GoE M H1 z1 O1 H2 z2 O2) : GoE M H z O H2 z2 O2 := ⟨g.toGo.trans k.toGo, fun a o h n => k.fx a o (g.fx a o h n) fun q => by
  rcases g.zp a q with q | q
  · exact n q
  · rw [q] at h; cases h⟩
theorem Wd.alloc (w : Wd K M H σ ρ z O) : ∀ a, NN M z O a → H a ≠ none := by
  rintro a (h | h | ⟨i, h⟩)
  · exact w.al a h
  · exact w.pot.ne h
  · exact (w.ow i a h).2.2.1
/-- the heap grows alone -/
theorem Wd.grow (w : Wd K M H σ ρ z O) (s : Same H H') : Wd K M H' σ ρ z O ∧ GoE M H z O H' z O := by
  have al : ∀ a, H a ≠ none → H' a ≠ none := fun a h => by
    cases e : H a with
    | none => exact absurd e h
    | some o => rw [s a o e]; exact Option.some_ne_none _
  have g : GoE M H z O H' z O := ⟨⟨fun a o h _ => s a o h, fun a o _ h => s a o h, fun a h => .inl h, fun a h => .inl h, al⟩, fun a o h _ => s a o h⟩
  refine ⟨⟨w.len, fun a h => al a (w.al a h), w.pot.to g.ext fun a o _ q => s a o q, w.pm, fun i a h => ?_, fun i sl h => ?_, w.out⟩, g⟩
  · obtain ⟨h1, h2, h3, h4⟩ := w.ow i a h
    exact ⟨h1, h2, al a h3, h4⟩
  · have q := w.sl i sl h
    cases sl with
    | any => exact q
    | val d => obtain ⟨q1, v, q2, q3⟩ := q; exact ⟨q1, v, q2, Rep.mono g.ext d v q3⟩
    | own ds => obtain ⟨a, vs, q1, q2, q3, q4⟩ := q; exact ⟨a, vs, q1, q2, s _ _ q3, Reps.mono g.ext _ _ q4⟩
    | obj x C ns ds => obtain ⟨a, dx, vs, q1, q0, q2, q3, q4, q5⟩ := q; exact ⟨a, dx, vs, q1, q0, q2, s _ _ q3, q4, Reps.mono g.ext _ _ q5⟩
    | exc a od ns ds => obtain ⟨q1, q2, q3⟩ := q; exact ⟨q1, q2, q3.mono g.ext⟩
    | ownA a ds => obtain ⟨vs, q1, q3, q4⟩ := q; exact ⟨vs, q1, s _ _ q3, Reps.mono g.ext _ _ q4⟩
    | dicA a ks ds => obtain ⟨vs, q1, q2, q3, q4, q5⟩ := q; exact ⟨vs, q1, q2, s _ _ q3, q4, Reps.mono g.ext _ _ q5⟩
    | lck a d => obtain ⟨q1, q2, q3⟩ := q; exact ⟨q1, q2, Rep.mono g.ext d _ q3⟩
end

/-! ### values on their way: an own list or instance may be looked at -/
def RepP (K : PySem.W.Frag) (N : Addr → Prop) (z : Z) (H : Hp) (d : D) (v : V) : Prop := Rep K N H d v ∨
  (∃ a ds vs, d = .lst ds ∧ v = .ref a ∧ ¬ z.has a ∧ H a = some (.lst vs) ∧ Reps K N H ds vs) ∨
  ∃ a C dx ns ds vs, d = .ins C ns ds ∧ v = .ref a ∧ ¬ z.has a ∧ H a = some (.ins C dx (ns.zip vs)) ∧ ns.length = ds.length ∧ Reps K N H ds vs
def RepPs (K : PySem.W.Frag) (N : Addr → Prop) (z : Z) (H : Hp) : List D → List V → Prop
  | [], vs => vs = []
  | d :: ds, vs => ∃ v r, vs = v :: r ∧ RepP K N z H d v ∧ RepPs K N z H ds r
theorem RepP.mono {K : PySem.W.Frag} {M : Addr → Prop} {H H' : Hp} {z z' : Z} {O O' : Nat → Option Addr} {d : D} {v : V} (g : GoE M H z O H' z' O') (h : RepP K (NN M z O) z H d v) : RepP K (NN M z' O') z' H' d v := by
  have np : ∀ a o, H a = some o → ¬ z.has a → ¬ z'.has a := fun a o h n q => by
    rcases g.zp a q with q | q
    · exact n q
    · rw [q] at h; cases h
  rcases h with h | ⟨a, ds, vs, h1, h2, h3, h4, h5⟩ | ⟨a, C, dx, ns, ds, vs, h1, h2, h3, h4, h5, h6⟩
  · exact .inl (Rep.mono g.ext d v h)
  · exact .inr (.inl ⟨a, ds, vs, h1, h2, np a _ h4 h3, g.fx _ _ h4 h3, Reps.mono g.ext _ _ h5⟩)
  · exact .inr (.inr ⟨a, C, dx, ns, ds, vs, h1, h2, np a _ h4 h3, g.fx _ _ h4 h3, h5, Reps.mono g.ext _ _ h6⟩)
theorem RepPs.mono {K : PySem.W.Frag} {M : Addr → Prop} {H H' : Hp} {z z' : Z} {O O' : Nat → Option Addr} (g : GoE M H z O H' z' O') : ∀ {ds : List D} {vs : List V}, RepPs K (NN M z O) z H ds vs → RepPs K (NN M z' O') z' H' ds vs
  | [], vs, h => h
  | d :: ds, vs, ⟨v, r, h1, h2, h3⟩ => ⟨v, r, h1, h2.mono g, RepPs.mono g h3⟩
section
variable {K : PySem.W.Frag} {N : Addr → Prop} {z : Z} {H : Hp} {v : V}
theorem RepP.int {i : Int} (h : RepP K N z H (.int i) v) : v = .int i := by
  rcases h with h | ⟨a, ds, vs, h1, _⟩ | ⟨a, C, dx, ns, ds, vs, h1, _⟩
  · rwa [Rep] at h
  · cases h1
  · cases h1
theorem RepP.str {i : Str} (h : RepP K N z H (.str i) v) : v = .str i := by
  rcases h with h | ⟨a, ds, vs, h1, _⟩ | ⟨a, C, dx, ns, ds, vs, h1, _⟩
  · rwa [Rep] at h
  · cases h1
  · cases h1
theorem RepP.bl {i : Bool} (h : RepP K N z H (.bl i) v) : v = .bl i := by
  rcases h with h | ⟨a, ds, vs, h1, _⟩ | ⟨a, C, dx, ns, ds, vs, h1, _⟩
  · rwa [Rep] at h
  · cases h1
  · cases h1
theorem RepP.non (h : RepP K N z H .non v) : v = .non := by
  rcases h with h | ⟨a, ds, vs, h1, _⟩ | ⟨a, C, dx, ns, ds, vs, h1, _⟩
  · rwa [Rep] at h
  · cases h1
  · cases h1
theorem RepP.adr {a : Addr} (h : RepP K N z H (.adr a) v) : v = .ref a := by
  rcases h with h | ⟨a, ds, vs, h1, _⟩ | ⟨a, C, dx, ns, ds, vs, h1, _⟩
  · rwa [Rep] at h
  · cases h1
  · cases h1
theorem RepP.ty {a : String} (h : RepP K N z H (.ty a) v) : v = .ty a := by
  rcases h with h | ⟨a, ds, vs, h1, _⟩ | ⟨a, C, dx, ns, ds, vs, h1, _⟩
  · rwa [Rep] at h
  · cases h1
  · cases h1
theorem RepP.tup {ds : List D} (h : RepP K N z H (.tup ds) v) : ∃ a vs, v = .ref a ∧ SqT K H a vs ∧ Reps K N H ds vs := by
  rcases h with h | ⟨a, ds, vs, h1, _⟩ | ⟨a, C, dx, ns, ds, vs, h1, _⟩
  · rw [Rep] at h
    obtain ⟨a, vs, h1, h2, h3⟩ := h
    exact ⟨a, vs, h1, h2.sq, h3⟩
  · cases h1
  · cases h1
theorem RepP.lst {ds : List D} (h : RepP K N z H (.lst ds) v) : ∃ a vs, v = .ref a ∧ H a = some (.lst vs) ∧ Reps K N H ds vs := by
  rcases h with h | ⟨a, ds, vs, h1, h2, _, h3, h4⟩ | ⟨a, C, dx, ns, ds, vs, h1, _⟩
  · rw [Rep] at h
    obtain ⟨a, vs, h1, _, h2, h3⟩ := h
    exact ⟨a, vs, h1, h2, h3⟩
  · cases h1
    exact ⟨a, vs, h2, h3, h4⟩
  · cases h1
theorem RepP.rol {ds : List D} (h : RepP K N z H (.rol ds) v) : ∃ a vs, v = .ref a ∧ SqL K H a vs ∧ Reps K N H ds vs := by
  rcases h with h | ⟨a, ds, vs, h1, _⟩ | ⟨a, C, dx, ns, ds, vs, h1, _⟩
  · rw [Rep] at h
    obtain ⟨a, vs, h1, h2, h3⟩ := h
    exact ⟨a, vs, h1, h2.sq, h3⟩
  · cases h1
  · cases h1
theorem RepP.ins {C : Addr} {ns : List Str} {ds : List D} (h : RepP K N z H (.ins C ns ds) v) : ∃ a dx vs, v = .ref a ∧ H a = some (.ins C dx (ns.zip vs)) ∧ ns.length = ds.length ∧ Reps K N H ds vs := by
  rcases h with h | ⟨a, ds, vs, h1, _⟩ | ⟨a, C, dx, ns, ds, vs, h1, h2, _, h3, h4, h5⟩
  · rw [Rep] at h
    obtain ⟨a, dx, vs, h1, _, h2, h3, h4⟩ := h
    exact ⟨a, dx, vs, h1, h2, h3, h4⟩
  · cases h1
  · cases h1
    exact ⟨a, dx, vs, h2, h3, h4, h5⟩
theorem RepP.exn {C : Addr} {ns : List Str} {ds : List D} (h : RepP K N z H (.exn C ns ds) v) : ∃ a od vs, v = .ref a ∧ H a = some (ExT C od a) ∧ ns.length = ds.length ∧ (∀ dd, od = some dd → H dd = some (.xd (ns.zip vs).reverse)) ∧ (od = none → ns = []) ∧ Reps K N H ds vs := by
  rcases h with h | ⟨a, ds, vs, h1, _⟩ | ⟨a, C, dx, ns, ds, vs, h1, _⟩
  · rw [Rep] at h
    obtain ⟨a, od, vs, h1, _, h2, h3, h4, h5, h6⟩ := h
    exact ⟨a, od, vs, h1, h2, h3, fun dd q => (h4 dd q).2, h5, h6⟩
  · cases h1
  · cases h1
theorem RepP.dic {ks : List Key} {ds : List D} (h : RepP K N z H (.dic ks ds) v) : ∃ a o vs, v = .ref a ∧ H a = some (.frz o (.dK (ks.zip vs))) ∧ ks.length = ds.length ∧ Reps K N H ds vs := by
  rcases h with h | ⟨a, ds, vs, h1, _⟩ | ⟨a, C, dx, ns, ds, vs, h1, _⟩
  · rw [Rep] at h
    obtain ⟨a, o, vs, h1, _, h2, h3, h4⟩ := h
    exact ⟨a, o, vs, h1, h2, h3, h4⟩
  · cases h1
  · cases h1
theorem RepPs.nil : RepPs K N z H [] [] := rfl
theorem RepPs.cons {d : D} {ds : List D} {vs : List V} (h : RepP K N z H d v) (t : RepPs K N z H ds vs) : RepPs K N z H (d :: ds) (v :: vs) := ⟨v, vs, rfl, h, t⟩
theorem RepPs.one {d : D} {vs : List V} (h : RepPs K N z H [d] vs) : ∃ v, vs = [v] ∧ RepP K N z H d v := by
  obtain ⟨v, r, rfl, h1, rfl⟩ := h
  exact ⟨v, rfl, h1⟩
theorem RepPs.two {d e : D} {vs : List V} (h : RepPs K N z H [d, e] vs) : ∃ v w, vs = [v, w] ∧ RepP K N z H d v ∧ RepP K N z H e w := by
  obtain ⟨v, r, rfl, h1, w, r, rfl, h2, rfl⟩ := h
  exact ⟨v, w, rfl, h1, h2⟩
/-- what was just laid -/
theorem Rep.lstNew {H' : Hp} {p : Addr} {ds : List D} {vs : List V} (al : ∀ a, N a → H a ≠ none) (hp : H p = none) (s : Same H H') (h : H' p = some (.lst vs)) (r : Reps K N H ds vs) : Rep K N H' (.lst ds) (.ref p) := by
  rw [Rep]
  exact ⟨p, vs, rfl, fun n => al p n hp, h, Reps.mono ⟨fun a o e _ => s a o e, fun a h => .inl h⟩ _ _ r⟩
theorem Rep.tupNew {H' : Hp} {p : Addr} {ds : List D} {vs : List V} (al : ∀ a, N a → H a ≠ none) (hp : H p = none) (s : Same H H') (h : H' p = some (.tup vs)) (r : Reps K N H ds vs) : Rep K N H' (.tup ds) (.ref p) := by
  rw [Rep]
  exact ⟨p, vs, rfl, .inl ⟨fun n => al p n hp, .inl h⟩, Reps.mono ⟨fun a o e _ => s a o e, fun a h => .inl h⟩ _ _ r⟩
end
end Lay

set_option Elab.async false
set_option linter.all false
set_option maxRecDepth 100000
set_option maxHeartbeats 2000000
namespace Lay
open PySem PySem.Spec PyProof.Rows L2

/-! ### readings over trees -/
abbrev KX := Addr → List Str → List D → List Sl → Z → Prop
abbrev DX (α : Type) := List Sl → Z → (α → List Sl → Z → Prop) → KX → Prop
def XOk (K : PySem.W.Frag) (M : Addr → Prop) (W : WX) (H : Hp) (z : Z) (O : Nat → Option Addr) (RX : KX) : Prop :=
  ∀ C ns ds ρ' z' od H' O' σ', RX C ns ds ρ' z' → Go M H z O H' z' O' → Wd K M H' σ' ρ' z' O' → ExAt K (NN M z' O') H' od ns ds → W (.ref C) od σ' H'
theorem XOk.after {K : PySem.W.Frag} {M : Addr → Prop} {W : WX} {H H1 : Hp} {z z1 : Z} {O O1 : Nat → Option Addr} {RX : KX} (x : XOk K M W H z O RX) (g : Go M H z O H1 z1 O1) : XOk K M W H1 z1 O1 RX :=
  fun C ns ds ρ' z' od H' O' σ' h k w e => x C ns ds ρ' z' od H' O' σ' h (g.trans k) w e
def UG {α β : Type} (K : PySem.W.Frag) (W : WX) (rel : (Addr → Prop) → Z → Hp → α → β → Prop) (t : DX α) (σ : L2.St) (H : Hp) (Q : β → Hp → Prop) : Prop :=
  ∃ M ρ z O R RX, Wd K M H σ ρ z O ∧ t ρ z R RX ∧ XOk K M W H z O RX ∧
    ∀ d ρ' z' v H' O', R d ρ' z' → GoE M H z O H' z' O' → Wd K M H' σ ρ' z' O' → rel (NN M z' O') z' H' d v → Q v H'
abbrev relE (K : PySem.W.Frag) : (Addr → Prop) → Z → Hp → D → V → Prop := fun N _ H d v => Rep K N H d v
abbrev relEs (K : PySem.W.Frag) : (Addr → Prop) → Z → Hp → List D → List V → Prop := fun N _ H d v => Reps K N H d v
abbrev relB : (Addr → Prop) → Z → Hp → Bool → Bool → Prop := fun _ _ _ b c => c = b
def DE (X : Cx) (W : WX) (e : Expr) (t : DX D) : Prop := PE X e (UG X.K W (relE X.K) t)
def DP (X : Cx) (W : WX) (e : Expr) (t : DX D) : Prop := PE X e (UG X.K W (RepP X.K) t)
def DT (X : Cx) (W : WX) (e : Expr) (t : DX Bool) : Prop := PT X e (UG X.K W relB t)
def DWt (X : Cx) (W : WX) (e : Expr) (t : DX Bool) : Prop := PW X e (UG X.K W relB t)
def DA (X : Cx) (W : WX) (es : List Expr) (t : DX (List D)) : Prop := PA X es (UG X.K W (RepPs X.K) t)
def DAs (X : Cx) (W : WX) (es : List Expr) (t : DX (List D)) : Prop := PA X es (UG X.K W (relEs X.K) t)
def DKw (X : Cx) (W : WX) (es : List Keyword) (t : DX (List D)) : Prop := PK X es (UG X.K W (relEs X.K) t)
section
variable {X : Cx} {W : WX} {e a b : Expr} {es : List Expr} {pos : Pos}
theorem pe_to {t t' : TE} (h : PE X e t) (i : ∀ σ H Q, t' σ H Q → t σ H Q) : PE X e t' := ⟨fun pins s σ H Q I q => h.run pins s σ H Q I (i σ H Q q)⟩
theorem pt_to {t t' : TT} (h : PT X e t) (i : ∀ σ H Q, t' σ H Q → t σ H Q) : PT X e t' := ⟨fun pins s σ H Q I q => h.run pins s σ H Q I (i σ H Q q)⟩
theorem pw_to {t t' : TT} (h : PW X e t) (i : ∀ σ H Q, t' σ H Q → t σ H Q) : PW X e t' := ⟨fun whole pins s σ H Q I q => h.run whole pins s σ H Q I (i σ H Q q)⟩
theorem pa_to {t t' : TA} (h : PA X es t) (i : ∀ σ H Q, t' σ H Q → t σ H Q) : PA X es t' := ⟨fun pos pins s σ H Q I q => h.run pos pins s σ H Q I (i σ H Q q)⟩
theorem pk_to {es : List Keyword} {t t' : TA} (h : PK X es t) (i : ∀ σ H Q, t' σ H Q → t σ H Q) : PK X es t' := ⟨fun pos pins s σ H Q I q => h.run pos pins s σ H Q I (i σ H Q q)⟩
theorem ps_to {st : Stmt} {t t' : TS} (h : PS X st t) (i : ∀ D σ H, t' D σ H → t D σ H) : PS X st t' := ⟨fun pins s σ H D I q => h.run pins s σ H D I (i D σ H q)⟩
theorem pss_to {st : List Stmt} {t t' : TS} (h : PSs X st t) (i : ∀ D σ H, t' D σ H → t D σ H) : PSs X st t' := ⟨fun pins s σ H D I q => h.run pins s σ H D I (i D σ H q)⟩

theorem dp_of {t : DX D} (h : DE X W e t) : DP X W e t := pe_to h fun σ H Q ⟨M, ρ, z, O, R, RX, w, h, x, k⟩ => ⟨M, ρ, z, O, R, RX, w, h, x, fun d ρ' z' v H' O' r g w' q => k d ρ' z' v H' O' r g w' (.inl q)⟩

/-! ### names, constants -/
def dVar (i : Nat) : DX D := fun ρ z R RX => match ρ[i]? with
  | some (.val d) => R d ρ z
  | some (.own ds) => R (.lst ds) (ρ.set i (.val (.lst ds))) z
  | some (.dicA a _ _) => R (.adr a) ρ z
  | some (.lck _ d) => R d ρ z
  | _ => False
def dPeek (i : Nat) : DX D := fun ρ z R RX => match ρ[i]? with
  | some (.val d) => R d ρ z
  | some (.own ds) => R (.lst ds) ρ z
  | some (.obj _ C ns ds) => R (.ins C ns ds) ρ z
  | some (.exc a _ _ _) => R (.adr a) ρ z
  | some (.dicA a _ _) => R (.adr a) ρ z
  | some (.lck _ d) => R d ρ z
  | _ => False
def dC (d : D) : DX D := fun ρ z R RX => R d ρ z
/-- slot i let go of -/
def off (O : Nat → Option Addr) (i : Nat) : Nat → Option Addr := fun j => if j = i then none else O j
theorem NN.off {M : Addr → Prop} {z : Z} {O : Nat → Option Addr} {i : Nat} {a : Addr} (h : NN M z (off O i) a) : NN M z O a := by
  rcases h with h | h | ⟨j, h⟩
  · exact .inl h
  · exact .inr (.inl h)
  · unfold Lay.off at h
    split at h
    · cases h
    · exact .inr (.inr ⟨j, h⟩)
theorem SlotOk.mono {K : PySem.W.Frag} {N N' : Addr → Prop} {H H' : Hp} {ov : Option V} {s : Sl} {oa : Option Addr} (e : Ext N H N' H') (ko : ∀ a o, oa = some a → H a = some o → H' a = some o) (h : SlotOk K N H ov s oa) : SlotOk K N' H' ov s oa := by
  cases s with
  | any => exact h
  | val d => obtain ⟨q1, v, q2, q3⟩ := h; exact ⟨q1, v, q2, Rep.mono e d v q3⟩
  | own ds => obtain ⟨a, vs, q1, q2, q3, q4⟩ := h; exact ⟨a, vs, q1, q2, ko _ _ q1 q3, Reps.mono e _ _ q4⟩
  | obj x C ns ds => obtain ⟨a, dx, vs, q1, q0, q2, q3, q4, q5⟩ := h; exact ⟨a, dx, vs, q1, q0, q2, ko _ _ q1 q3, q4, Reps.mono e _ _ q5⟩
  | exc a od ns ds => obtain ⟨q1, q2, q3⟩ := h; exact ⟨q1, q2, q3.mono e⟩
  | ownA a ds => obtain ⟨vs, q1, q3, q4⟩ := h; exact ⟨vs, q1, ko _ _ q1 q3, Reps.mono e _ _ q4⟩
  | dicA a ks ds => obtain ⟨vs, q1, q2, q3, q4, q5⟩ := h; exact ⟨vs, q1, q2, ko _ _ q1 q3, q4, Reps.mono e _ _ q5⟩
  | lck a d => obtain ⟨q1, q2, q3⟩ := h; exact ⟨q1, q2, Rep.mono e d _ q3⟩
/-- slot i is given a value that is no own thing -/
theorem Wd.setv {K : PySem.W.Frag} {M : Addr → Prop} {H : Hp} {σ σ' : L2.St} {ρ : List Sl} {z : Z} {O : Nat → Option Addr} (w : Wd K M H σ ρ z O) (i : Nat) (s : Sl)
    (hl : σ'.length = σ.length) (hσ : ∀ j, j ≠ i → σ'[j]? = σ[j]?) (hs : i < ρ.length → SlotOk K (NN M z (off O i)) H (σ'[i]?.join) s none) : Wd K M H σ' (ρ.set i s) z (off O i) where
  len := by rw [List.length_set, hl]; exact w.len
  al := w.al
  pot := w.pot.to ⟨fun a o q _ => q, fun a q => .inl q.off⟩ fun _ _ _ q => q
  pm := w.pm
  ow := fun j a h => by
    have h' : O j = some a := by
      unfold off at h
      split at h
      · cases h
      · exact h
    obtain ⟨h1, h2, h3, h4⟩ := w.ow j a h'
    refine ⟨h1, h2, h3, fun l e => h4 l ?_⟩
    unfold off at e
    split at e
    · cases e
    · exact e
  sl := fun j s' h => by
    by_cases hj : j = i
    · subst hj
      have hi : j < ρ.length := by
        rcases Nat.lt_or_ge j ρ.length with q | q
        · exact q
        · rw [List.getElem?_eq_none (by rw [List.length_set]; exact q)] at h; cases h
      rw [List.getElem?_set_self hi] at h
      cases h
      have e : off O j j = none := by unfold off; rw [if_pos rfl]
      rw [e]
      exact hs hi
    · rw [List.getElem?_set_ne (Ne.symm hj)] at h
      have e : off O i j = O j := by unfold off; rw [if_neg hj]
      rw [hσ j hj, e]
      exact (w.sl j s' h).mono ⟨fun a o q _ => q, fun a q => .inl q.off⟩ fun _ _ _ q => q
  out := fun j h => by
    unfold off
    split
    · rfl
    · refine w.out j ?_
      rw [List.getElem?_eq_none_iff, List.length_set] at h
      exact List.getElem?_eq_none_iff.mpr h
theorem GoE.off {M : Addr → Prop} {H : Hp} {z : Z} {O : Nat → Option Addr} {i : Nat} : GoE M H z O H z (off O i) :=
  ⟨⟨fun a o h _ => h, fun a o _ h => h, fun a h => .inl h.off, fun a h => .inl h, fun a h => h⟩, fun a o h _ => h⟩
theorem join_some {α : Type} {o : Option (Option α)} {a : α} (h : o.join = some a) : o = some (some a) := by
  cases o with
  | none => cases h
  | some o => exact congrArg some h
theorem Wd.freeze {K : PySem.W.Frag} {M : Addr → Prop} {H : Hp} {σ : L2.St} {ρ : List Sl} {z : Z} {O : Nat → Option Addr} (w : Wd K M H σ ρ z O) {i : Nat} {ds : List D} (h : ρ[i]? = some (.own ds)) :
    ∃ a, σ[i]? = some (some (.ref a)) ∧ Rep K (NN M z (off O i)) H (.lst ds) (.ref a) ∧ Wd K M H σ (ρ.set i (.val (.lst ds))) z (off O i) := by
  obtain ⟨a, vs, q1, q2, q3, q4⟩ := w.sl i _ h
  obtain ⟨h1, h2, h3, h4⟩ := w.ow i a q1
  have na : ¬ NN M z (Lay.off O i) a := by
    rintro (q | q | ⟨j, q⟩)
    · exact h1 q
    · exact h2 q
    · unfold Lay.off at q
      split at q
      · cases q
      · exact absurd (h4 j q) ‹_›
  have r : Rep K (NN M z (Lay.off O i)) H (.lst ds) (.ref a) := by
    rw [Rep]
    exact ⟨a, vs, rfl, na, q3, Reps.mono ⟨fun a o q _ => q, fun a q => .inl q.off⟩ _ _ q4⟩
  exact ⟨a, join_some q2, r, w.setv i _ rfl (fun _ _ => rfl) fun _ => ⟨rfl, _, q2, r⟩⟩
theorem de_var (i : Nat) {x : Str} (hN : X.N[i]? = some x := by rfl) (hv : Vis X.env.scope x := by first | exact Or.inl rfl | exact Or.inr (Or.inl rfl) | exact Or.inr (Or.inr rfl)) (hd : (x == ("__debug__" : Str)) = false := by decide)
    (hcd : (x == ("__classdict__" : Str)) = false := by decide) : DE X W (.Name x pos) (dVar i) := by
  refine pe_to (pe_var hN hv hd hcd) fun σ H Q ⟨M, ρ, z, O, R, RX, w, h, x, k⟩ => ?_
  unfold dVar at h
  split at h
  · rename_i d e
    obtain ⟨q1, v, q2, q3⟩ := w.sl i _ e
    exact ⟨v, join_some q2, k d ρ z v H O h .refl w q3⟩
  · rename_i ds e
    obtain ⟨a, q1, q2, q3⟩ := w.freeze e
    exact ⟨_, q1, k _ _ z _ H _ h .off q3 q2⟩
  · rename_i a ks ds e
    obtain ⟨vs, q1, q2, q3, q4⟩ := w.sl i _ e
    exact ⟨_, join_some q2, k (.adr a) ρ z (.ref a) H O h .refl w (by show Rep _ _ _ (.adr a) _; rw [Rep])⟩
  · rename_i a d e
    obtain ⟨q1, q2, q3⟩ := w.sl i _ e
    exact ⟨_, join_some q2, k d ρ z (.ref a) H O h .refl w q3⟩
  · exact h.elim
theorem dp_var (i : Nat) {x : Str} (hN : X.N[i]? = some x := by rfl) (hv : Vis X.env.scope x := by first | exact Or.inl rfl | exact Or.inr (Or.inl rfl) | exact Or.inr (Or.inr rfl)) (hd : (x == ("__debug__" : Str)) = false := by decide)
    (hcd : (x == ("__classdict__" : Str)) = false := by decide) : DP X W (.Name x pos) (dPeek i) := by
  refine pe_to (pe_var hN hv hd hcd) fun σ H Q ⟨M, ρ, z, O, R, RX, w, h, x, k⟩ => ?_
  unfold dPeek at h
  split at h
  · rename_i d e
    obtain ⟨q1, v, q2, q3⟩ := w.sl i _ e
    exact ⟨v, join_some q2, k d ρ z v H O h .refl w (.inl q3)⟩
  · rename_i ds e
    obtain ⟨a, vs, q1, q2, q3, q4⟩ := w.sl i _ e
    exact ⟨_, join_some q2, k _ _ z _ H O h .refl w (.inr (.inl ⟨a, ds, vs, rfl, rfl, (w.ow i a q1).2.1, q3, q4⟩))⟩
  · rename_i x' C ns ds e
    obtain ⟨a, dx, vs, q1, q0, q2, q3, q4, q5⟩ := w.sl i _ e
    exact ⟨_, join_some q2, k _ _ z _ H O h .refl w (.inr (.inr ⟨a, C, dx, ns, ds, vs, rfl, rfl, (w.ow i a q1).2.1, q3, q4, q5⟩))⟩
  · rename_i a od ns ds e
    obtain ⟨q1, q2, q3⟩ := w.sl i _ e
    exact ⟨_, join_some q2, k _ _ z _ H O h .refl w (.inl (by rw [Rep]))⟩
  · rename_i a ks ds e
    obtain ⟨vs, q1, q2, q3, q4⟩ := w.sl i _ e
    exact ⟨_, join_some q2, k _ _ z _ H O h .refl w (.inl (by rw [Rep]))⟩
  · rename_i a d e
    obtain ⟨q1, q2, q3⟩ := w.sl i _ e
    exact ⟨_, join_some q2, k d ρ z (.ref a) H O h .refl w (.inl q3)⟩
  · exact h.elim
theorem de_c {v : V} {d : D} (h : PE X e (tC v)) (r : ∀ N H, Rep X.K N H d v) : DE X W e (dC d) := pe_to h fun σ H Q ⟨M, ρ, z, O, R, RX, w, h, x, k⟩ => k d ρ z v H O h .refl w (r _ _)
theorem de_int {i j} : DE X W (.Constant (.int i) j pos) (dC (.int i)) := de_c pe_int fun _ _ => by rw [Rep]
theorem de_bl {b j} : DE X W (.Constant (.bool b) j pos) (dC (.bl b)) := de_c pe_bl fun _ _ => by rw [Rep]
theorem de_non {j} : DE X W (.Constant .none j pos) (dC .non) := de_c pe_non fun _ _ => by rw [Rep]
theorem de_str {x j} : DE X W (.Constant (.str x) j pos) (dC (.str x)) := de_c pe_str fun _ _ => by rw [Rep]

/-! ### operators on values -/
abbrev Op2 := D → D → (D → Prop) → Prop
def OpU (K : PySem.W.Frag) (f : Op2) : R2 := fun x y H Q => ∃ N z d1 d2 R, (∀ a, N a → H a ≠ none) ∧ RepP K N z H d1 x ∧ RepP K N z H d2 y ∧ f d1 d2 R ∧ ∀ d v H', R d → Same H H' → Rep K N H' d v → Q v H'
def dOp (f : Op2) (ta tb : DX D) : DX D := fun ρ z R RX => ta ρ z (fun d1 ρ1 z1 => tb ρ1 z1 (fun d2 ρ2 z2 => f d1 d2 fun d => R d ρ2 z2) RX) RX
theorem UG.op {K : PySem.W.Frag} {W : WX} {f : Op2} {ta tb : DX D} {σ : L2.St} {H : Hp} {Q : VK} (h : UG K W (relE K) (dOp f ta tb) σ H Q) :
    UG K W (RepP K) ta σ H fun x H1 => UG K W (RepP K) tb σ H1 fun y H2 => OpU K f x y H2 Q := by
  obtain ⟨M, ρ, z, O, R, RX, w, h, x, k⟩ := h
  refine ⟨M, ρ, z, O, _, RX, w, h, x, fun d1 ρ1 z1 v1 H1 O1 h1 g1 w1 r1 => ?_⟩
  refine ⟨M, ρ1, z1, O1, _, RX, w1, h1, x.after g1.toGo, fun d2 ρ2 z2 v2 H2 O2 h2 g2 w2 r2 => ?_⟩
  refine ⟨_, z2, d1, d2, _, w2.alloc, r1.mono g2, r2, h2, fun d v H' hd s r => ?_⟩
  obtain ⟨w3, g3⟩ := w2.grow s
  exact k d ρ2 z2 v H' O2 hd (g1.trans (g2.trans g3)) w3 r
theorem de_op {op : Operator} {f : Op2} {ta tb : DX D} (ho : OpR X (binaryOp op) (OpU X.K f)) (ha : DP X W a ta) (hb : DP X W b tb) : DE X W (.BinOp a op b pos) (dOp f ta tb) := pe_to (pe_op ho ha hb) fun _ _ _ h => h.op
theorem de_cmp {op : CmpOp} {f : Op2} {ta tb : DX D} (ho : OpR X (compareOp op) (OpU X.K f)) (ha : DP X W a ta) (hb : DP X W b tb) (hm : behindInMarks op b = false) : DE X W (.Compare a [op] [b] pos) (dOp f ta tb) := pe_to (pe_cmpR ho ha hb hm) fun _ _ _ h => h.op
theorem de_ix {f : Op2} {ta tb : DX D} (ho : IxR X (OpU X.K f)) (ha : DP X W a ta) (hb : DP X W b tb) (hs : PlainIx b) : DE X W (.Subscript a b pos) (dOp f ta tb) := pe_to (pe_ix ho ha hb hs) fun _ _ _ h => h.op
def dTest (t : DX D) : DX Bool := fun ρ z R RX => t ρ z (fun d ρ' z' => match d with | .bl b => R b ρ' z' | _ => False) RX
theorem UG.test {K : PySem.W.Frag} {W : WX} {t : DX D} {σ : L2.St} {H : Hp} {Q : Bool → Hp → Prop} (h : UG K W relB (dTest t) σ H Q) : UG K W (relE K) t σ H fun x H' => ∃ k, x = .bl k ∧ Q k H' := by
  obtain ⟨M, ρ, z, O, R, RX, w, h, x, k⟩ := h
  refine ⟨M, ρ, z, O, _, RX, w, h, x, fun d ρ' z' v H' O' hd g w' r => ?_⟩
  cases d with
  | bl b =>
    exact ⟨b, RepP.bl (z := z') (.inl r), k b ρ' z' b H' O' hd g w' rfl⟩
  | _ => exact hd.elim
theorem dt_cmp {op : CmpOp} {f : Op2} {ta tb : DX D} (ho : OpR X (compareOp op) (OpU X.K f)) (ha : DP X W a ta) (hb : DP X W b tb) (hm : behindInMarks op b = false) : DT X W (.Compare a [op] [b] pos) (dTest (dOp f ta tb)) :=
  pt_to (pt_cmpR ho ha hb hm) fun _ _ _ h => h.test.op
def dChain (f g : Op2) (ta tb tc : DX D) : DX D := fun ρ z R RX => ta ρ z (fun d1 ρ1 z1 => tb ρ1 z1 (fun d2 ρ2 z2 => f d1 d2 fun d => match d with
  | .bl true => tc ρ2 z2 (fun d3 ρ3 z3 => g d2 d3 fun d => R d ρ3 z3) RX
  | .bl false => R (.bl false) ρ2 z2
  | _ => False) RX) RX
theorem UG.chain {K : PySem.W.Frag} {W : WX} {f g : Op2} {ta tb tc : DX D} {σ : L2.St} {H : Hp} {Q : VK} (h : UG K W (relE K) (dChain f g ta tb tc) σ H Q) :
    tChain (OpU K f) (OpU K g) (UG K W (RepP K) ta) (UG K W (RepP K) tb) (UG K W (RepP K) tc) σ H Q := by
  obtain ⟨M, ρ, z, O, R, RX, w, h, x, k⟩ := h
  refine ⟨M, ρ, z, O, _, RX, w, h, x, fun d1 ρ1 z1 v1 H1 O1 h1 g1 w1 r1 => ?_⟩
  refine ⟨M, ρ1, z1, O1, _, RX, w1, h1, x.after g1.toGo, fun d2 ρ2 z2 v2 H2 O2 h2 g2 w2 r2 => ?_⟩
  refine ⟨_, z2, d1, d2, _, w2.alloc, r1.mono g2, r2, h2, fun d v H3 hd s r => ?_⟩
  obtain ⟨w3, g3⟩ := w2.grow s
  cases d with
  | bl b =>
    refine ⟨b, RepP.bl (z := z2) (.inl r), ?_⟩
    cases b with
    | false => rw [if_neg Bool.false_ne_true]; exact k _ ρ2 z2 _ H3 O2 hd (g1.trans (g2.trans g3)) w3 (by unfold relE; rw [Rep])
    | true =>
      rw [if_pos rfl]
      refine ⟨M, ρ2, z2, O2, _, RX, w3, hd, x.after (g1.trans (g2.trans g3)).toGo, fun d3 ρ3 z3 v3 H4 O4 h4 g4 w4 r4 => ?_⟩
      refine ⟨_, z3, d2, d3, _, w4.alloc, r2.mono (g3.trans g4), r4, h4, fun d v H5 hd s r => ?_⟩
      obtain ⟨w5, g5⟩ := w4.grow s
      exact k d ρ3 z3 v H5 O4 hd (g1.trans (g2.trans (g3.trans (g4.trans g5)))) w5 r
  | _ => exact hd.elim
theorem de_chain {op op' : CmpOp} {f g : Op2} {c : Expr} {ta tb tc : DX D} (ho : OpR X (compareOp op) (OpU X.K f)) (ho' : OpR X (compareOp op') (OpU X.K g)) (ha : DP X W a ta) (hb : DP X W b tb) (hc : DP X W c tc)
    (hm : lastMarks [op, op'] [b, c] = false := by with_unfolding_all rfl) : DE X W (.Compare a [op, op'] [b, c] pos) (dChain f g ta tb tc) := pe_to (pe_chain ho ho' ha hb hc hm) fun _ _ _ h => h.chain
/-! ### truth, and, or, not -/
def tru : D → (Bool → Prop) → Prop
  | .non, k => k false
  | .bl b, k => k b
  | .int i, k => k (i != 0)
  | .str z, k => z.length ≤ sizeLine ∧ k ((z.length : Int) != 0)
  | .lst ds, k => k (!ds.isEmpty)
  | .rol ds, k => k (!ds.isEmpty)
  | .tup ds, k => k (!ds.isEmpty)
  | _, _ => False
theorem isEmpty_reps {K : PySem.W.Frag} {N : Addr → Prop} {H : Hp} {ds : List D} {vs : List V} (r : Reps K N H ds vs) : ds.isEmpty = vs.isEmpty := by
  have := r.length
  cases ds <;> cases vs <;> first | rfl | (simp at this)
theorem tru_ok {K : PySem.W.Frag} {N : Addr → Prop} {z : Z} {H : Hp} {d : D} {v : V} (r : RepP K N z H d v) {R : Bool → Prop} (h : tru d R) : ∃ k, TruV K v H k ∧ R k := by
  cases d with
  | non => rw [r.non]; exact ⟨_, rfl, h⟩
  | bl b => rw [r.bl]; exact ⟨_, rfl, h⟩
  | int i => rw [r.int]; exact ⟨_, rfl, h⟩
  | str s => rw [r.str]; exact ⟨_, ⟨h.1, rfl⟩, h.2⟩
  | lst ds => obtain ⟨a, vs, rfl, h1, h2⟩ := r.lst; exact ⟨_, .inl ⟨vs, SqL.of h1, rfl⟩, by rw [← isEmpty_reps h2]; exact h⟩
  | rol ds => obtain ⟨a, vs, rfl, h1, h2⟩ := r.rol; exact ⟨_, .inl ⟨vs, h1, rfl⟩, by rw [← isEmpty_reps h2]; exact h⟩
  | tup ds => obtain ⟨a, vs, rfl, h1, h2⟩ := r.tup; exact ⟨_, .inr (.inl ⟨vs, h1, rfl⟩), by rw [← isEmpty_reps h2]; exact h⟩
  | _ => exact h.elim
def dTru (t : DX D) : DX Bool := fun ρ z R RX => t ρ z (fun d ρ' z' => tru d fun b => R b ρ' z') RX
theorem dt_truth {t : DX D} (ha : DP X W a t) (he : ∀ whole, isTrue a X.env whole = (do let v ← whole; standAt a.pos; holding [v] (truthy v)) := by intro _; rfl) : DT X W a (dTru t) := pt_to (pt_truth ha he) fun σ H Q ⟨M, ρ, z, O, R, RX, w, h, x, k⟩ =>
  ⟨M, ρ, z, O, _, RX, w, h, x, fun d ρ' z' v H' O' hd g w' r => let ⟨b, h1, h2⟩ := tru_ok r hd; ⟨b, h1, k b ρ' z' b H' O' h2 g w' rfl⟩⟩
def dAndB (t u : DX Bool) : DX Bool := fun ρ z R RX => t ρ z (fun b ρ1 z1 => if b = true then u ρ1 z1 R RX else R false ρ1 z1) RX
def dOrB (t u : DX Bool) : DX Bool := fun ρ z R RX => t ρ z (fun b ρ1 z1 => if b = true then R true ρ1 z1 else u ρ1 z1 R RX) RX
def dNotB (t : DX Bool) : DX Bool := fun ρ z R RX => t ρ z (fun b ρ1 z1 => R (!b) ρ1 z1) RX
theorem dw_and1 {t : DX Bool} (h : DT X W a t) : DWt X W (.BoolOp .And [a] pos) t := pw_and1 h
theorem dw_or1 {t : DX Bool} (h : DT X W a t) : DWt X W (.BoolOp .Or [a] pos) t := pw_or1 h
theorem dw_and {t u : DX Bool} (ha : DT X W a t) (hb : DWt X W (.BoolOp .And (b :: es) pos) u) : DWt X W (.BoolOp .And (a :: b :: es) pos) (dAndB t u) := pw_to (pw_and ha hb) fun σ H Q ⟨M, ρ, z, O, R, RX, w, h, x, k⟩ =>
  ⟨M, ρ, z, O, _, RX, w, h, x, fun c ρ' z' c' H' O' hd g w' r => by
    obtain rfl : c' = c := r
    cases c' with
    | true =>
      rw [if_pos rfl] at hd ⊢
      exact ⟨M, ρ', z', O', R, RX, w', hd, x.after g.toGo, fun d ρ2 z2 v H2 O2 h2 g2 w2 r2 => k d ρ2 z2 v H2 O2 h2 (g.trans g2) w2 r2⟩
    | false =>
      rw [if_neg Bool.false_ne_true] at hd ⊢
      exact k _ ρ' z' _ H' O' hd g w' rfl⟩
theorem dw_or {t u : DX Bool} (ha : DT X W a t) (hb : DWt X W (.BoolOp .Or (b :: es) pos) u) : DWt X W (.BoolOp .Or (a :: b :: es) pos) (dOrB t u) := pw_to (pw_or ha hb) fun σ H Q ⟨M, ρ, z, O, R, RX, w, h, x, k⟩ =>
  ⟨M, ρ, z, O, _, RX, w, h, x, fun c ρ' z' c' H' O' hd g w' r => by
    obtain rfl : c' = c := r
    cases c' with
    | true =>
      rw [if_pos rfl] at hd ⊢
      exact k _ ρ' z' _ H' O' hd g w' rfl
    | false =>
      rw [if_neg Bool.false_ne_true] at hd ⊢
      exact ⟨M, ρ', z', O', R, RX, w', hd, x.after g.toGo, fun d ρ2 z2 v H2 O2 h2 g2 w2 r2 => k d ρ2 z2 v H2 O2 h2 (g.trans g2) w2 r2⟩⟩
theorem DWt.pt {t : DX Bool} (h : DWt X W e t) : DT X W e t := PW.pt h
theorem dt_not {t : DX Bool} (h : DT X W a t) : DT X W (.UnaryOp .Not a pos) (dNotB t) := pt_to (pt_not h) fun σ H Q ⟨M, ρ, z, O, R, RX, w, h, x, k⟩ =>
  ⟨M, ρ, z, O, _, RX, w, h, x, fun c ρ' z' c' H' O' hd g w' r => k _ ρ' z' _ H' O' hd g w' (congrArg (!·) r)⟩
/-- and, or as values: by truth -/
def dAnd (t u : DX D) : DX D := fun ρ z R RX => t ρ z (fun d ρ1 z1 => tru d fun b => if b = true then u ρ1 z1 R RX else R d ρ1 z1) RX
def dOr (t u : DX D) : DX D := fun ρ z R RX => t ρ z (fun d ρ1 z1 => tru d fun b => if b = true then R d ρ1 z1 else u ρ1 z1 R RX) RX
def dNot (t : DX D) : DX D := fun ρ z R RX => t ρ z (fun d ρ1 z1 => tru d fun b => R (.bl (!b)) ρ1 z1) RX
theorem de_one {op} {t : DX D} (h : DE X W a t) : DE X W (.BoolOp op [a] pos) t := pe_one h
theorem de_and {t u : DX D} (ha : DE X W a t) (hb : DE X W (.BoolOp .And (b :: es) pos) u) : DE X W (.BoolOp .And (a :: b :: es) pos) (dAnd t u) := pe_to (pe_andT ha hb) fun σ H Q ⟨M, ρ, z, O, R, RX, w, h, x, k⟩ =>
  ⟨M, ρ, z, O, _, RX, w, h, x, fun d ρ' z' v H' O' hd g w' r => by
    obtain ⟨c, h1, h2⟩ := tru_ok (z := z') (.inl r) hd
    refine ⟨c, h1, ?_⟩
    cases c with
    | true =>
      rw [if_pos rfl] at h2 ⊢
      exact ⟨M, ρ', z', O', R, RX, w', h2, x.after g.toGo, fun d ρ2 z2 v H2 O2 h2 g2 w2 r2 => k d ρ2 z2 v H2 O2 h2 (g.trans g2) w2 r2⟩
    | false =>
      rw [if_neg Bool.false_ne_true] at h2 ⊢
      exact k _ ρ' z' _ H' O' h2 g w' r⟩
theorem de_or {t u : DX D} (ha : DE X W a t) (hb : DE X W (.BoolOp .Or (b :: es) pos) u) : DE X W (.BoolOp .Or (a :: b :: es) pos) (dOr t u) := pe_to (pe_orT ha hb) fun σ H Q ⟨M, ρ, z, O, R, RX, w, h, x, k⟩ =>
  ⟨M, ρ, z, O, _, RX, w, h, x, fun d ρ' z' v H' O' hd g w' r => by
    obtain ⟨c, h1, h2⟩ := tru_ok (z := z') (.inl r) hd
    refine ⟨c, h1, ?_⟩
    cases c with
    | true =>
      rw [if_pos rfl] at h2 ⊢
      exact k _ ρ' z' _ H' O' h2 g w' r
    | false =>
      rw [if_neg Bool.false_ne_true] at h2 ⊢
      exact ⟨M, ρ', z', O', R, RX, w', h2, x.after g.toGo, fun d ρ2 z2 v H2 O2 h2 g2 w2 r2 => k d ρ2 z2 v H2 O2 h2 (g.trans g2) w2 r2⟩⟩
theorem de_not {t : DX D} (ha : DP X W a t) : DE X W (.UnaryOp .Not a pos) (dNot t) := pe_to (pe_notT ha) fun σ H Q ⟨M, ρ, z, O, R, RX, w, h, x, k⟩ =>
  ⟨M, ρ, z, O, _, RX, w, h, x, fun d ρ' z' v H' O' hd g w' r => let ⟨c, h1, h2⟩ := tru_ok r hd; ⟨c, h1, k _ ρ' z' _ H' O' h2 g w' (by unfold relE; rw [Rep])⟩⟩
def dIfE {α : Type} (c : DX Bool) (t u : DX α) : DX α := fun ρ z R RX => c ρ z (fun b ρ1 z1 => if b = true then t ρ1 z1 R RX else u ρ1 z1 R RX) RX
/-- what is known in the middle -/
def dCutE {α : Type} (t : DX α) : DX α := fun ρ z R RX => ∃ S : α → List Sl → Z → Prop, t ρ z S RX ∧ ∀ d ρ' z', S d ρ' z' → R d ρ' z'
theorem UG.cut {α β : Type} {K : PySem.W.Frag} {rel : (Addr → Prop) → Z → Hp → α → β → Prop} {t : DX α} {σ : L2.St} {H : Hp} {Q : β → Hp → Prop} (h : UG K W rel (dCutE t) σ H Q) : UG K W rel t σ H Q :=
  let ⟨M, ρ, z, O, R, RX, w, ⟨S, h, i⟩, x, k⟩ := h
  ⟨M, ρ, z, O, S, RX, w, h, x, fun d ρ' z' v H' O' hd => k d ρ' z' v H' O' (i d ρ' z' hd)⟩
/-! ### arguments -/
def dNil : DX (List D) := fun ρ z R RX => R [] ρ z
def dCons (t : DX D) (u : DX (List D)) : DX (List D) := fun ρ z R RX => t ρ z (fun d ρ1 z1 => u ρ1 z1 (fun ds ρ2 z2 => R (d :: ds) ρ2 z2) RX) RX
theorem da_nil : DA X W [] dNil := pa_to pa_nil fun σ H Q ⟨M, ρ, z, O, R, RX, w, h, x, k⟩ => k [] ρ z [] H O h .refl w RepPs.nil
theorem das_nil : DAs X W [] dNil := pa_to pa_nil fun σ H Q ⟨M, ρ, z, O, R, RX, w, h, x, k⟩ => k [] ρ z [] H O h .refl w Reps.nil
theorem dk_nil : DKw X W [] dNil := pk_to pk_nil fun σ H Q ⟨M, ρ, z, O, R, RX, w, h, x, k⟩ => k [] ρ z [] H O h .refl w Reps.nil
theorem UG.consP {K : PySem.W.Frag} {t : DX D} {u : DX (List D)} {σ : L2.St} {H : Hp} {Q : List V → Hp → Prop} (h : UG K W (RepPs K) (dCons t u) σ H Q) : tCons (UG K W (RepP K) t) (UG K W (RepPs K) u) σ H Q :=
  let ⟨M, ρ, z, O, R, RX, w, h, x, k⟩ := h
  ⟨M, ρ, z, O, _, RX, w, h, x, fun d ρ1 z1 v H1 O1 h1 g1 w1 r1 => ⟨M, ρ1, z1, O1, _, RX, w1, h1, x.after g1.toGo, fun ds ρ2 z2 vs H2 O2 h2 g2 w2 r2 => k _ ρ2 z2 _ H2 O2 h2 (g1.trans g2) w2 (.cons (r1.mono g2) r2)⟩⟩
theorem UG.consS {K : PySem.W.Frag} {t : DX D} {u : DX (List D)} {σ : L2.St} {H : Hp} {Q : List V → Hp → Prop} (h : UG K W (relEs K) (dCons t u) σ H Q) : tCons (UG K W (relE K) t) (UG K W (relEs K) u) σ H Q :=
  let ⟨M, ρ, z, O, R, RX, w, h, x, k⟩ := h
  ⟨M, ρ, z, O, _, RX, w, h, x, fun d ρ1 z1 v H1 O1 h1 g1 w1 r1 => ⟨M, ρ1, z1, O1, _, RX, w1, h1, x.after g1.toGo, fun ds ρ2 z2 vs H2 O2 h2 g2 w2 r2 => k _ ρ2 z2 _ H2 O2 h2 (g1.trans g2) w2 (Reps.cons (Rep.mono g2.ext _ _ r1) r2)⟩⟩
theorem da_cons {t : DX D} {u : DX (List D)} (ha : DP X W e t) (hr : DA X W es u) (hs : starEach (e :: es) X.env = (false, eval e X.env) :: starEach es X.env := by rfl) : DA X W (e :: es) (dCons t u) := pa_to (pa_cons ha hr hs) fun _ _ _ h => h.consP
theorem das_cons {t : DX D} {u : DX (List D)} (ha : DE X W e t) (hr : DAs X W es u) (hs : starEach (e :: es) X.env = (false, eval e X.env) :: starEach es X.env := by rfl) : DAs X W (e :: es) (dCons t u) := pa_to (pa_cons ha hr hs) fun _ _ _ h => h.consS
theorem dk_cons {nm : Option Str} {kpos : Pos} {kws : List Keyword} {t : DX D} {u : DX (List D)} (ha : DE X W e t) (hr : DKw X W kws u) : DKw X W (⟨nm, e, kpos⟩ :: kws) (dCons t u) := pk_to (pk_cons ha hr) fun _ _ _ h => h.consS

/-! ### displays -/
def dTup (t : DX (List D)) : DX D := fun ρ z R RX => t ρ z (fun ds ρ' z' => ds.length ≤ sizeLine ∧ R (.tup ds) ρ' z') RX
def dLst (t : DX (List D)) : DX D := fun ρ z R RX => t ρ z (fun ds ρ' z' => ds.length ≤ sizeLine ∧ R (.lst ds) ρ' z') RX
theorem de_tup {x1} {t : DX (List D)} (h : DAs X W es t) : DE X W (.Tuple es x1 pos) (dTup t) := pe_to (pe_tupN h) fun σ H Q ⟨M, ρ, z, O, R, RX, w, h, x, k⟩ =>
  ⟨M, ρ, z, O, _, RX, w, h, x, fun ds ρ1 z1 vs H1 O1 ⟨hl, h1⟩ g1 w1 r1 => ⟨by rw [← r1.length]; exact hl, fun p H' hp s e => k _ ρ1 z1 _ H' O1 h1 (g1.trans (w1.grow s).2) (w1.grow s).1 (Rep.tupNew w1.alloc hp s e r1)⟩⟩
/-- a list that is new: nothing else leans on it -/
def UN (K : PySem.W.Frag) (W : WX) (t : DX (List D)) : TE := fun σ H Q => ∃ M ρ z O R RX, Wd K M H σ ρ z O ∧ t ρ z R RX ∧ XOk K M W H z O RX ∧
  ∀ ds ρ' z' p vs H1 H' O', R ds ρ' z' → GoE M H z O H1 z' O' → Wd K M H1 σ ρ' z' O' → Same H1 H' → H1 p = none → H' p = some (.lst vs) → Reps K (NN M z' O') H1 ds vs → Q (.ref p) H'
def DN (X : Cx) (W : WX) (e : Expr) (t : DX (List D)) : Prop := PE X e (UN X.K W t)
def dLet (t : DX (List D)) : DX D := fun ρ z R RX => t ρ z (fun ds ρ' z' => R (.lst ds) ρ' z') RX
theorem de_new {t : DX (List D)} (h : DN X W e t) : DE X W e (dLet t) := pe_to h fun σ H Q ⟨M, ρ, z, O, R, RX, w, h, x, k⟩ =>
  ⟨M, ρ, z, O, _, RX, w, h, x, fun ds ρ1 z1 p vs H1 H' O1 h1 g1 w1 s hp e r => k _ ρ1 z1 _ H' O1 h1 (g1.trans (w1.grow s).2) (w1.grow s).1 (Rep.lstNew w1.alloc hp s e r)⟩
def dSized (t : DX (List D)) : DX (List D) := fun ρ z R RX => t ρ z (fun ds ρ' z' => ds.length ≤ sizeLine ∧ R ds ρ' z') RX
theorem dn_lst {t : DX (List D)} (h : DAs X W es t) : DN X W (.List es pos) (dSized t) := pe_to (pe_lstN h) fun σ H Q ⟨M, ρ, z, O, R, RX, w, h, x, k⟩ =>
  ⟨M, ρ, z, O, _, RX, w, h, x, fun ds ρ1 z1 vs H1 O1 ⟨hl, h1⟩ g1 w1 r1 => ⟨by rw [← r1.length]; exact hl, fun p H' hp s e => k _ ρ1 z1 p vs H1 H' O1 h1 g1 w1 s hp e r1⟩⟩
end
end Lay

set_option Elab.async false
set_option linter.all false
set_option maxRecDepth 100000
set_option maxHeartbeats 2000000
namespace Lay
open PySem PySem.Spec PyProof.Rows L2
section
variable {K : PySem.W.Frag} {N : Addr → Prop} {H : Hp}
theorem Rep.i {i : Int} : Rep K N H (.int i) (.int i) := by rw [Rep]
theorem Rep.s {i : Str} : Rep K N H (.str i) (.str i) := by rw [Rep]
theorem Rep.b {i : Bool} : Rep K N H (.bl i) (.bl i) := by rw [Rep]
theorem Rep.n : Rep K N H .non .non := by rw [Rep]
theorem Rep.a {a : Addr} : Rep K N H (.adr a) (.ref a) := by rw [Rep]
theorem RepP.tupR {z : Z} {ds : List D} {v : V} (h : RepP K N z H (.tup ds) v) : Rep K N H (.tup ds) v := by
  rcases h with h | ⟨a, ds, vs, h1, _⟩ | ⟨a, C, dx, ns, ds, vs, h1, _⟩
  · exact h
  · cases h1
  · cases h1
theorem same0 : Same H H := fun _ _ e => e
end
section
variable {X : Cx} {W : WX} {e a b : Expr} {es : List Expr} {pos : Pos}
def addD : Op2
  | .int i, .int j, k => k (.int (i + j))
  | .str i, .str j, k => i.length + j.length ≤ sizeLine ∧ k (.str (i ++ j))
  | .lst xs, .lst ys, k => xs.length + ys.length ≤ sizeLine ∧ k (.lst (xs ++ ys))
  | .tup xs, .tup ys, k => xs.length + ys.length ≤ sizeLine ∧ k (.tup (xs ++ ys))
  | _, _, _ => False
theorem od_add : OpR X (binaryOp .Add) (OpU X.K addD) := by
  rintro pins s σ H x y v u Q I rx ry ⟨N, z, d1, d2, R, al, r1, r2, h, k⟩
  unfold addD at h
  split at h
  · obtain rfl := r1.int; obtain rfl := r2.int
    exact op_add pins s σ H _ _ v u Q I rx ry ⟨_, _, rfl, rfl, k _ _ H h same0 .i⟩
  · obtain rfl := r1.str; obtain rfl := r2.str
    exact op_add_str pins s σ H _ _ v u Q I rx ry ⟨_, _, rfl, rfl, h.1, k _ _ H h.2 same0 .s⟩
  · obtain ⟨a, vs, rfl, h1, q1⟩ := r1.lst
    obtain ⟨b, ws, rfl, h2, q2⟩ := r2.lst
    exact op_catN pins s σ H _ _ v u Q I rx ry ⟨a, b, vs, ws, rfl, rfl, h1, h2, by rw [← q1.length, ← q2.length]; exact h.1, fun p H' hp s e => k _ _ H' h.2 s (Rep.lstNew al hp s e (q1.append q2))⟩
  · rename_i xs ys
    have t1 := r1.tupR
    have t2 := r2.tupR
    obtain ⟨a, vs, rfl, h1, q1⟩ := r1.tup
    obtain ⟨b, ws, rfl, h2, q2⟩ := r2.tup
    refine op_catA pins s σ H _ _ v u Q I rx ry ⟨a, b, vs, ws, rfl, rfl, h1, h2, by rw [← q1.length, ← q2.length]; exact h.1, fun e => ?_, fun _ e => ?_, fun _ _ p hp => k _ _ _ h.2 (same_new hp) (Rep.tupNew al hp (same_new hp) upd_same (q1.append q2))⟩
    · have l := q1.length
      rw [e] at l
      have : xs = [] := List.eq_nil_of_length_eq_zero (by simpa using l)
      subst this
      exact k _ _ H h.2 same0 t2
    · have l := q2.length
      rw [e] at l
      have : ys = [] := List.eq_nil_of_length_eq_zero (by simpa using l)
      subst this
      refine k _ _ H h.2 same0 ?_
      rw [List.append_nil]
      exact t1
  · exact h.elim
def subD : Op2
  | .int i, .int j, k => k (.int (i - j))
  | _, _, _ => False
theorem od_sub : OpR X (binaryOp .Sub) (OpU X.K subD) := by
  rintro pins s σ H x y v u Q I rx ry ⟨N, z, d1, d2, R, al, r1, r2, h, k⟩
  unfold subD at h
  split at h
  · obtain rfl := r1.int; obtain rfl := r2.int
    exact op_sub pins s σ H _ _ v u Q I rx ry ⟨_, _, rfl, rfl, k _ _ H h same0 .i⟩
  · exact h.elim
def mulD : Op2
  | .int i, .int j, k => CMulW i j ∧ k (.int (i * j))
  | .lst xs, .int j, k => -(2 ^ 63) ≤ j ∧ j < 2 ^ 63 ∧ xs.length * j.toNat ≤ sizeLine ∧ k (.lst (List.replicate j.toNat xs).flatten)
  | .str i, .int j, k => MulOk i j ∧ k (.str (Txt.mul i j))
  | _, _, _ => False
theorem Reps.rep {K : PySem.W.Frag} {N : Addr → Prop} {H : Hp} {ds : List D} {vs : List V} (r : Reps K N H ds vs) : ∀ n : Nat, Reps K N H (List.replicate n ds).flatten (List.replicate n vs).flatten
  | 0 => .nil
  | n + 1 => by
    rw [List.replicate_succ, List.replicate_succ, List.flatten_cons, List.flatten_cons]
    exact r.append (Reps.rep r n)
theorem od_mul : OpR X (binaryOp .Mult) (OpU X.K mulD) := by
  rintro pins s σ H x y v u Q I rx ry ⟨N, z, d1, d2, R, al, r1, r2, h, k⟩
  unfold mulD at h
  split at h
  · obtain rfl := r1.int; obtain rfl := r2.int
    exact op_mulW pins s σ H _ _ v u Q I rx ry ⟨_, _, rfl, rfl, h.1, k _ _ H h.2 same0 .i⟩
  · obtain ⟨a, vs, rfl, h1, q1⟩ := r1.lst
    obtain rfl := r2.int
    exact op_repN pins s σ H _ _ v u Q I rx ry ⟨a, _, vs, rfl, rfl, h1, h.1, h.2.1, by rw [← q1.length]; exact h.2.2.1, fun p H' hp s e => k _ _ H' h.2.2.2 s (Rep.lstNew al hp s e (q1.rep _))⟩
  · obtain rfl := r1.str; obtain rfl := r2.int
    exact op_rep_str pins s σ H _ _ v u Q I rx ry ⟨_, _, rfl, rfl, h.1, k _ _ H h.2 same0 .s⟩
  · exact h.elim
/-- the divisor above 0, or below -/
def fdivD : Op2
  | .int i, .int j, k => j.natAbs.log2 < 9000 ∧ if 0 < j then k (.int (i / j)) else j ≠ 0 ∧ k (.int (i.fdiv j))
  | _, _, _ => False
theorem od_fdiv : OpR X (binaryOp .FloorDiv) (OpU X.K fdivD) := by
  rintro pins s σ H x y v u Q I rx ry ⟨N, z, d1, d2, R, al, r1, r2, h, k⟩
  unfold fdivD at h
  split at h
  · obtain rfl := r1.int; obtain rfl := r2.int
    rename_i i j
    by_cases hj : 0 < j
    · rw [if_pos hj] at h
      exact op_fdivW pins s σ H _ _ v u Q I rx ry ⟨_, _, rfl, rfl, ⟨hj, h.1⟩, k _ _ H h.2 same0 .i⟩
    · rw [if_neg hj] at h
      exact op_fdivA pins s σ H _ _ v u Q I rx ry ⟨_, _, rfl, rfl, ⟨h.2.1, h.1⟩, k _ _ H h.2.2 same0 .i⟩
  · exact h.elim
def modD : Op2
  | .int i, .int j, k => 0 < j ∧ k (.int (i % j))
  | _, _, _ => False
theorem od_mod : OpR X (binaryOp .Mod) (OpU X.K modD) := by
  rintro pins s σ H x y v u Q I rx ry ⟨N, z, d1, d2, R, al, r1, r2, h, k⟩
  unfold modD at h
  split at h
  · obtain rfl := r1.int; obtain rfl := r2.int
    exact op_mod pins s σ H _ _ v u Q I rx ry ⟨_, _, rfl, rfl, h.1, k _ _ H h.2 same0 .i⟩
  · exact h.elim
def powD : Op2
  | .int i, .int j, k => CPow i j ∧ k (.int (i ^ j.toNat))
  | _, _, _ => False
theorem od_pow : OpR X (binaryOp .Pow) (OpU X.K powD) := by
  rintro pins s σ H x y v u Q I rx ry ⟨N, z, d1, d2, R, al, r1, r2, h, k⟩
  unfold powD at h
  split at h
  · obtain rfl := r1.int; obtain rfl := r2.int
    exact op_pow pins s σ H _ _ v u Q I rx ry ⟨_, _, rfl, rfl, h.1, k _ _ H h.2 same0 .i⟩
  · exact h.elim
/-! ### comparisons -/
def cmpD (f : Int → Int → Bool) (g : List Nat → List Nat → Bool) : Op2
  | .int i, .int j, k => k (.bl (f i j))
  | .str i, .str j, k => k (.bl (g i.cps.toList j.cps.toList))
  | _, _, _ => False
abbrev ltD : Op2 := cmpD (fun i j => decide (i < j)) (fun i j => decide (i < j))
abbrev leD : Op2 := cmpD (fun i j => decide (i ≤ j)) (fun i j => !decide (j < i))
abbrev gtD : Op2 := cmpD (fun i j => decide (j < i)) (fun i j => decide (j < i))
abbrev geD : Op2 := cmpD (fun i j => decide (j ≤ i)) (fun i j => !decide (i < j))
theorem od_cmp {op : CmpOp} {f : Int → Int → Bool} {g : List Nat → List Nat → Bool} (h1 : OpR X (compareOp op) (rI0 fun i j => .bl (f i j)))
    (h2 : OpR X (compareOp op) (fun x y H Q => ∃ i j, x = .str i ∧ y = .str j ∧ Q (.bl (g i.cps.toList j.cps.toList)) H)) : OpR X (compareOp op) (OpU X.K (cmpD f g)) := by
  rintro pins s σ H x y v u Q I rx ry ⟨N, z, d1, d2, R, al, r1, r2, h, k⟩
  unfold cmpD at h
  split at h
  · obtain rfl := r1.int; obtain rfl := r2.int
    exact h1 pins s σ H _ _ v u Q I rx ry ⟨_, _, rfl, rfl, k _ _ H h same0 .b⟩
  · obtain rfl := r1.str; obtain rfl := r2.str
    exact h2 pins s σ H _ _ v u Q I rx ry ⟨_, _, rfl, rfl, k _ _ H h same0 .b⟩
  · exact h.elim
theorem od_lt : OpR X (compareOp .Lt) (OpU X.K ltD) := od_cmp op_lt op_lt_str
theorem od_le : OpR X (compareOp .LtE) (OpU X.K leD) := od_cmp op_le op_le_str
theorem od_gt : OpR X (compareOp .Gt) (OpU X.K gtD) := od_cmp op_gt op_gt_str
theorem od_ge : OpR X (compareOp .GtE) (OpU X.K geD) := od_cmp op_ge op_ge_str
/-! ### as data -/
mutual
def dat : D → Option PyData
  | .non => some .none
  | .bl b => some (.bool b)
  | .int i => some (.int i)
  | .str z => some (.str z)
  | .tup ds => (dats ds).map .tuple
  | .lst ds => (dats ds).map .list
  | .rol ds => (dats ds).map .list
  | _ => none
def dats : List D → Option (List PyData)
  | [] => some []
  | d :: ds => (dat d).bind fun p => (dats ds).map (p :: ·)
end
mutual
theorem dat_ok {K : PySem.W.Frag} {N : Addr → Prop} {H : Hp} : ∀ (d : D) (v : V) (p : PyData), Rep K N H d v → dat d = some p → Dp K H v p
  | .non, v, p, r, e => by rw [Rep] at r; rw [dat] at e; cases e; subst r; exact .non
  | .bl b, v, p, r, e => by rw [Rep] at r; rw [dat] at e; cases e; subst r; exact .bl b
  | .int b, v, p, r, e => by rw [Rep] at r; rw [dat] at e; cases e; subst r; exact .int b
  | .str b, v, p, r, e => by rw [Rep] at r; rw [dat] at e; cases e; subst r; exact .str b
  | .tup ds, v, p, r, e => by
    obtain ⟨a, vs, rfl, h1, h2⟩ := RepP.tup (z := ⟨none, 0, m0⟩) (.inl r)
    rw [dat] at e
    obtain ⟨ps, e1, rfl⟩ := Option.map_eq_some_iff.mp e
    exact .tup h1 (dats_ok ds vs ps h2 e1)
  | .lst ds, v, p, r, e => by
    obtain ⟨a, vs, rfl, h1, h2⟩ := RepP.lst (z := ⟨none, 0, m0⟩) (.inl r)
    rw [dat] at e
    obtain ⟨ps, e1, rfl⟩ := Option.map_eq_some_iff.mp e
    exact .lst (SqL.of h1) (dats_ok ds vs ps h2 e1)
  | .rol ds, v, p, r, e => by
    obtain ⟨a, vs, rfl, h1, h2⟩ := RepP.rol (z := ⟨none, 0, m0⟩) (.inl r)
    rw [dat] at e
    obtain ⟨ps, e1, rfl⟩ := Option.map_eq_some_iff.mp e
    exact .lst h1 (dats_ok ds vs ps h2 e1)
  | .adr _, v, p, r, e => by simp [dat] at e
  | .ty _, v, p, r, e => by simp [dat] at e
  | .ins _ _ _, v, p, r, e => by simp [dat] at e
  | .exn _ _ _, v, p, r, e => by simp [dat] at e
  | .dic _ _, v, p, r, e => by simp [dat] at e
theorem dats_ok {K : PySem.W.Frag} {N : Addr → Prop} {H : Hp} : ∀ (ds : List D) (vs : List V) (ps : List PyData), Reps K N H ds vs → dats ds = some ps → DpAll K H vs ps
  | [], vs, ps, r, e => by rw [Reps] at r; rw [dats] at e; cases e; subst r; exact .nil
  | d :: ds, vs, ps, r, e => by
    rw [Reps] at r
    obtain ⟨v, vr, rfl, h1, h2⟩ := r
    rw [dats] at e
    obtain ⟨p, e1, e2⟩ := Option.bind_eq_some_iff.mp e
    obtain ⟨qs, e3, rfl⟩ := Option.map_eq_some_iff.mp e2
    exact .cons (dat_ok d v p h1 e1) (dats_ok ds vr qs h2 e3)
end
theorem datP_ok {K : PySem.W.Frag} {N : Addr → Prop} {z : Z} {H : Hp} {d : D} {v : V} {p : PyData} (r : RepP K N z H d v) (e : dat d = some p) : Dp K H v p := by
  rcases r with r | ⟨a, ds, vs, rfl, rfl, _, h1, h2⟩ | ⟨a, C, dx, ns, ds, vs, rfl, _⟩
  · exact dat_ok d v p r e
  · rw [dat] at e
    obtain ⟨ps, e1, rfl⟩ := Option.map_eq_some_iff.mp e
    exact .lst (SqL.of h1) (dats_ok ds vs ps h2 e1)
  · simp [dat] at e
/-- == of data, by kind -/
def eqD (f : Bool → Bool) : Op2
  | .int i, .int j, k => k (.bl (f (decide (i = j))))
  | .str i, .str j, k => k (.bl (f (decide (i = j))))
  | .bl i, .bl j, k => k (.bl (f (decide (i = j))))
  | .non, .non, k => k (.bl (f true))
  | .non, .int _, k | .non, .str _, k | .non, .bl _, k | .int _, .non, k | .str _, .non, k | .bl _, .non, k | .int _, .str _, k | .str _, .int _, k | .bl _, .str _, k | .str _, .bl _, k => k (.bl (f false))
  | d, e, k => ∃ p q, dat d = some p ∧ dat e = some q ∧ SeqAt.shaped p = true ∧ SeqAt.shaped q = true ∧ k (.bl (f (PyData.eqv p q)))
theorem dec_eq {α β : Type} [DecidableEq α] [DecidableEq β] {f : α → β} (hf : ∀ a b, f a = f b → a = b) (a b : α) : decide (f a = f b) = decide (a = b) := by
  by_cases h : a = b
  · rw [decide_eq_true h, decide_eq_true (by rw [h])]
  · rw [decide_eq_false h, decide_eq_false (fun z => h (hf _ _ z))]
theorem od_eqG {op : CmpOp} {f : Bool → Bool} (h1 : OpR X (compareOp op) (fun x y H Q => scal x y = true ∧ Q (.bl (f (decide (x = y)))) H))
    (h2 : OpR X (compareOp op) (fun x y H Q => ∃ d e, Dp X.K H x d ∧ Dp X.K H y e ∧ SeqAt.shaped d = true ∧ SeqAt.shaped e = true ∧ Q (.bl (f (PyData.eqv d e))) H)) : OpR X (compareOp op) (OpU X.K (eqD f)) := by
  rintro pins s σ H x y v u Q I rx ry ⟨N, z, d1, d2, R, al, r1, r2, h, k⟩
  have scal2 : ∀ b : Bool, scal x y = true → decide (x = y) = b → R (.bl (f b)) → wpAny (model X.prog X.w) X.A (compareOp op v u) (EP X pins σ Q) X.xe s := fun b q1 q2 q3 =>
    h1 pins s σ H x y v u Q I rx ry ⟨q1, by rw [q2]; exact k _ _ H q3 same0 .b⟩
  unfold eqD at h
  split at h
  · obtain rfl := r1.int; obtain rfl := r2.int; exact scal2 _ rfl (dec_eq (fun _ _ e => V.int.inj e) _ _) h
  · obtain rfl := r1.str; obtain rfl := r2.str; exact scal2 _ rfl (dec_eq (fun _ _ e => V.str.inj e) _ _) h
  · obtain rfl := r1.bl; obtain rfl := r2.bl; exact scal2 _ rfl (dec_eq (fun _ _ e => V.bl.inj e) _ _) h
  · obtain rfl := r1.non; obtain rfl := r2.non; exact scal2 _ rfl rfl h
  · obtain rfl := r1.non; obtain rfl := r2.int; exact scal2 _ rfl rfl h
  · obtain rfl := r1.non; obtain rfl := r2.str; exact scal2 _ rfl rfl h
  · obtain rfl := r1.non; obtain rfl := r2.bl; exact scal2 _ rfl rfl h
  · obtain rfl := r1.int; obtain rfl := r2.non; exact scal2 _ rfl rfl h
  · obtain rfl := r1.str; obtain rfl := r2.non; exact scal2 _ rfl rfl h
  · obtain rfl := r1.bl; obtain rfl := r2.non; exact scal2 _ rfl rfl h
  · obtain rfl := r1.int; obtain rfl := r2.str; exact scal2 _ rfl rfl h
  · obtain rfl := r1.str; obtain rfl := r2.int; exact scal2 _ rfl rfl h
  · obtain rfl := r1.bl; obtain rfl := r2.str; exact scal2 _ rfl rfl h
  · obtain rfl := r1.str; obtain rfl := r2.bl; exact scal2 _ rfl rfl h
  · obtain ⟨p, q, e1, e2, e3, e4, h⟩ := h
    exact h2 pins s σ H x y v u Q I rx ry ⟨p, q, datP_ok r1 e1, datP_ok r2 e2, e3, e4, k _ _ H h same0 .b⟩
theorem od_eq (hu : X.A.units + 64 < cLine) : OpR X (compareOp .Eq) (OpU X.K (eqD id)) := od_eqG op_eq (op_eqD hu)
theorem od_ne (hu : X.A.units + 64 < cLine) : OpR X (compareOp .NotEq) (OpU X.K (eqD not)) := od_eqG op_ne (op_neD hu)
def isNonD : D → Bool
  | .non => true
  | _ => false
def isD (f : Bool → Bool) : Op2 := fun d e k => e = .non ∧ k (.bl (f (isNonD d)))
theorem non_iff {K : PySem.W.Frag} {N : Addr → Prop} {z : Z} {H : Hp} {d : D} {v : V} (r : RepP K N z H d v) : decide (v = .non) = isNonD d := by
  cases d with
  | non => rw [r.non]; rfl
  | bl b => rw [r.bl]; rfl
  | int b => rw [r.int]; rfl
  | str b => rw [r.str]; rfl
  | adr b => rw [r.adr]; rfl
  | ty b => rw [r.ty]; rfl
  | tup ds => obtain ⟨a, vs, rfl, _⟩ := r.tup; rfl
  | lst ds => obtain ⟨a, vs, rfl, _⟩ := r.lst; rfl
  | rol ds => obtain ⟨a, vs, rfl, _⟩ := r.rol; rfl
  | ins C ns ds => obtain ⟨a, dx, vs, rfl, _⟩ := r.ins; rfl
  | exn C ns ds => obtain ⟨a, od, vs, rfl, _⟩ := r.exn; rfl
  | dic ks ds => obtain ⟨a, o, vs, rfl, _⟩ := r.dic; rfl
theorem od_isN : OpR X (compareOp .Is) (OpU X.K (isD id)) := by
  rintro pins s σ H x y v u Q I rx ry ⟨N, z, d1, d2, R, al, r1, r2, ⟨rfl, h⟩, k⟩
  exact op_isN pins s σ H x y v u Q I rx ry ⟨r2.non, by rw [non_iff r1]; exact k _ _ H h same0 .b⟩
/-- in a text; in a list, a tuple of flat things -/
def toV : D → Option V
  | .non => some .non
  | .bl b => some (.bl b)
  | .int i => some (.int i)
  | .str z => some (.str z)
  | _ => none
def toVs : List D → Option (List V)
  | [] => some []
  | d :: ds => (toV d).bind fun v => (toVs ds).map (v :: ·)
def inD (f : Bool → Bool) : Op2 := fun d e k => match d, e with
  | .str i, .str j => k (.bl (f (!(Builtin.Str.occurrences j i 0 j.length 1).isEmpty)))
  | d, .lst es => ∃ v vs, toV d = some v ∧ toVs es = some vs ∧ k (.bl (f (inV v vs)))
  | d, .tup es => ∃ v vs, toV d = some v ∧ toVs es = some vs ∧ k (.bl (f (inV v vs)))
  | _, _ => False
/-! ### one operand -/
def dUn (f : D → (D → Prop) → Prop) (t : DX D) : DX D := fun ρ z R RX => t ρ z (fun d ρ' z' => f d fun r => R r ρ' z') RX
def negD : D → (D → Prop) → Prop
  | .int i, k => k (.int (-i))
  | _, _ => False
/-! ### places and slices -/
theorem atI_reps {K : PySem.W.Frag} {N : Addr → Prop} {H : Hp} {ds : List D} {vs : List V} {i : Int} {d : D} (r : Reps K N H ds vs) (h : atI ds i = some d) : ∃ v, atI vs i = some v ∧ Rep K N H d v := by
  unfold atI at h ⊢
  rw [r.length] at h
  obtain ⟨j, e1, e2⟩ := Option.bind_eq_some_iff.mp h
  obtain ⟨v, h1, h2⟩ := r.get e2
  exact ⟨v, by rw [e1]; exact h1, h2⟩
def ixD : Op2
  | .lst ds, .int i, k => ∃ d, atI ds i = some d ∧ k d
  | .rol ds, .int i, k => ∃ d, atI ds i = some d ∧ k d
  | .tup ds, .int i, k => ∃ d, atI ds i = some d ∧ k d
  | .str z, .int i, k => z.length ≤ sizeLine ∧ ∃ c, atI z.cps.toList i = some c ∧ k (.str ⟨#[c]⟩)
  | _, _, _ => False
theorem od_ix : IxR X (OpU X.K ixD) := by
  rintro value slice pins s σ H x y v u Q I rx ry ⟨N, z, d1, d2, R, al, r1, r2, h, k⟩ hs
  unfold ixD at h
  split at h
  · obtain ⟨d, e, h⟩ := h
    obtain ⟨a, vs, rfl, q1, q2⟩ := r1.lst
    obtain rfl := r2.int
    obtain ⟨w, e2, r⟩ := atI_reps q2 e
    exact ix_list value slice pins s σ H _ _ v u Q I rx ry ⟨a, vs, _, w, rfl, rfl, SqL.of q1, e2, k _ _ H h same0 r⟩ hs
  · obtain ⟨d, e, h⟩ := h
    obtain ⟨a, vs, rfl, q1, q2⟩ := r1.rol
    obtain rfl := r2.int
    obtain ⟨w, e2, r⟩ := atI_reps q2 e
    exact ix_list value slice pins s σ H _ _ v u Q I rx ry ⟨a, vs, _, w, rfl, rfl, q1, e2, k _ _ H h same0 r⟩ hs
  · obtain ⟨d, e, h⟩ := h
    obtain ⟨a, vs, rfl, q1, q2⟩ := r1.tup
    obtain rfl := r2.int
    obtain ⟨w, e2, r⟩ := atI_reps q2 e
    exact ix_tup value slice pins s σ H _ _ v u Q I rx ry ⟨a, vs, _, w, rfl, rfl, q1, e2, k _ _ H h same0 r⟩ hs
  · obtain ⟨hz, c, e, h⟩ := h
    obtain rfl := r1.str
    obtain rfl := r2.int
    exact ix_str value slice pins s σ H _ _ v u Q I rx ry ⟨_, _, c, rfl, rfl, hz, e, k _ _ H h same0 .s⟩ hs
  · exact h.elim
def cutL {α : Type} (xs : List α) (lo hi : Option Int) : List α := (xs.drop (HT.sIx xs.length 0 lo)).take (HT.sIx xs.length xs.length hi - HT.sIx xs.length 0 lo)
theorem cut_reps {K : PySem.W.Frag} {N : Addr → Prop} {H : Hp} {ds : List D} {vs : List V} {lo hi : Option Int} (r : Reps K N H ds vs) : Reps K N H (cutL ds lo hi) (cutV vs lo hi) := by
  unfold cutL cutV
  rw [r.length]
  exact (r.drop _).take _
def slD : D → Option Int → Option Int → (D → Prop) → Prop
  | .lst ds, lo, hi, k => k (.lst (cutL ds lo hi))
  | .rol ds, lo, hi, k => k (.lst (cutL ds lo hi))
  | .tup ds, lo, hi, k => k (.tup (cutL ds lo hi))
  | .str z, lo, hi, k => z.length ≤ sizeLine ∧ k (.str (cutS z lo hi))
  | _, _, _, _ => False
def SlU (K : PySem.W.Frag) (f : D → Option Int → Option Int → (D → Prop) → Prop) : V → Option Int → Option Int → Hp → VK → Prop := fun x lo hi H Q =>
  ∃ N z d R, (∀ a, N a → H a ≠ none) ∧ RepP K N z H d x ∧ f d lo hi R ∧ ∀ d v H', R d → Same H H' → Rep K N H' d v → Q v H'
theorem sd_sl : L2.SlR X (SlU X.K slD) := by
  rintro pins s σ H x v vl vu lo hi sl Q I rx hs pl pu ⟨N, z, d, R, al, r, h, k⟩
  unfold slD at h
  split at h
  · obtain ⟨a, vs, rfl, q1, q2⟩ := r.lst
    exact sl_listN pins s σ H _ v vl vu lo hi sl Q I rx hs pl pu ⟨a, vs, rfl, SqL.of q1, fun p H' hp s e => k _ _ H' h s (Rep.lstNew al hp s e (cut_reps q2))⟩
  · obtain ⟨a, vs, rfl, q1, q2⟩ := r.rol
    exact sl_listN pins s σ H _ v vl vu lo hi sl Q I rx hs pl pu ⟨a, vs, rfl, q1, fun p H' hp s e => k _ _ H' h s (Rep.lstNew al hp s e (cut_reps q2))⟩
  · rename_i ds
    have t := r.tupR
    obtain ⟨a, vs, rfl, q1, q2⟩ := r.tup
    refine sl_tupA pins s σ H _ v vl vu lo hi sl Q I rx hs pl pu ⟨a, vs, rfl, q1, fun ⟨z1, z2⟩ => k _ _ H h same0 ?_, fun _ p hp => k _ _ _ h (same_new hp) (Rep.tupNew al hp (same_new hp) upd_same (cut_reps q2))⟩
    have e := cut_all z1 z2
    have : cutL ds lo hi = ds := by
      unfold cutL
      rw [q2.length, z1, z2, List.drop_zero, Nat.sub_zero, List.take_of_length_le (by rw [q2.length]; exact Nat.le_refl _)]
    rw [this]
    exact t
  · obtain rfl := r.str
    exact sl_str pins s σ H _ v vl vu lo hi sl Q I rx hs pl pu ⟨_, rfl, h.1, k _ _ H h.2 same0 .s⟩
  · exact h.elim
def DO (X : Cx) (W : WX) (e : Option Expr) (t : DX (Option Int)) : Prop := PO X e (UG X.K W (fun _ _ _ (d o : Option Int) => o = d) t)
theorem po_to {e : Option Expr} {t t' : TO} (h : PO X e t) (i : ∀ σ H Q, t' σ H Q → t σ H Q) : PO X e t' := ⟨fun pins s σ H Q I q => h.run pins s σ H Q I (i σ H Q q)⟩
def dNoPart : DX (Option Int) := fun ρ z R RX => R none ρ z
def dPart (t : DX D) : DX (Option Int) := fun ρ z R RX => t ρ z (fun d ρ' z' => match d with | .int i => R (some i) ρ' z' | _ => False) RX
theorem do_none : DO X W none dNoPart := po_to po_none fun σ H Q ⟨M, ρ, z, O, R, RX, w, h, x, k⟩ => k none ρ z none H O h .refl w rfl
theorem do_some {t : DX D} (h : DE X W e t) : DO X W (some e) (dPart t) := po_to (po_some h) fun σ H Q ⟨M, ρ, z, O, R, RX, w, h, x, k⟩ =>
  ⟨M, ρ, z, O, _, RX, w, h, x, fun d ρ' z' v H' O' hd g w' r => by
    cases d with
    | int i => exact ⟨i, RepP.int (z := z') (.inl r), k _ ρ' z' _ H' O' hd g w' rfl⟩
    | _ => exact hd.elim⟩
def dSl (f : D → Option Int → Option Int → (D → Prop) → Prop) (t : DX D) (tl th : DX (Option Int)) : DX D := fun ρ z R RX => t ρ z (fun d ρ1 z1 => tl ρ1 z1 (fun l ρ2 z2 => th ρ2 z2 (fun u ρ3 z3 => f d l u fun r => R r ρ3 z3) RX) RX) RX
theorem de_slice {f : D → Option Int → Option Int → (D → Prop) → Prop} {t : DX D} {tl th : DX (Option Int)} {lo hi : Option Expr} {p2 : Pos} (hs : L2.SlR X (SlU X.K f)) (he : DP X W e t) (hl : DO X W lo tl) (hu : DO X W hi th) :
    DE X W (.Subscript e (.Slice lo hi none p2) pos) (dSl f t tl th) := pe_to (pe_slice hs he hl hu) fun σ H Q ⟨M, ρ, z, O, R, RX, w, h, x, k⟩ =>
  ⟨M, ρ, z, O, _, RX, w, h, x, fun d ρ1 z1 v1 H1 O1 h1 g1 w1 r1 => ⟨M, ρ1, z1, O1, _, RX, w1, h1, x.after g1.toGo, fun l ρ2 z2 l' H2 O2 h2 g2 w2 r2 =>
    ⟨M, ρ2, z2, O2, _, RX, w2, h2, x.after (g1.trans g2).toGo, fun u ρ3 z3 u' H3 O3 h3 g3 w3 r3 => by
      obtain rfl : l' = l := r2
      obtain rfl : u' = u := r3
      exact ⟨_, z3, d, _, w3.alloc, r1.mono (g2.trans g3), h3, fun d v H' hd s r => k d ρ3 z3 v H' O3 hd (g1.trans (g2.trans (g3.trans (w3.grow s).2))) (w3.grow s).1 r⟩⟩⟩⟩
def revD : D → (D → Prop) → Prop
  | .lst ds, k => k (.lst ds.reverse)
  | .rol ds, k => k (.lst ds.reverse)
  | .tup ds, k => k (.tup ds.reverse)
  | _, _ => False
def tRevA (K : PySem.W.Frag) (te : TE) : TE := fun σ H Q => te σ H fun x H1 => (∃ a xs, x = .ref a ∧ SqL K H1 a xs ∧ ∀ p, H1 p = none → Q (.ref p) (upd H1 p (.lst xs.reverse)))
end
end Lay

set_option Elab.async false
set_option linter.all false
set_option maxRecDepth 100000
set_option maxHeartbeats 2000000
namespace Lay
open PySem PySem.Spec PyProof.Rows L2
section
variable {X : Cx} {W : WX} {e a b : Expr} {es : List Expr} {pos : Pos}
/-! ### built-in functions -/
abbrev FnD := List D → (D → Prop) → Prop
def CallU (K : PySem.W.Frag) (f : FnD) : List V → Hp → VK → Prop := fun xs H Q => ∃ N z ds R, (∀ a, N a → H a ≠ none) ∧ RepPs K N z H ds xs ∧ f ds R ∧ ∀ d v H', R d → Same H H' → Rep K N H' d v → Q v H'
def dFn (f : FnD) (t : DX (List D)) : DX D := fun ρ z R RX => t ρ z (fun ds ρ' z' => f ds fun d => R d ρ' z') RX
theorem UG.fn {K : PySem.W.Frag} {f : FnD} {t : DX (List D)} {σ : L2.St} {H : Hp} {Q : VK} (h : UG K W (relE K) (dFn f t) σ H Q) : UG K W (RepPs K) t σ H fun vs H1 => CallU K f vs H1 Q :=
  let ⟨M, ρ, z, O, R, RX, w, h, x, k⟩ := h
  ⟨M, ρ, z, O, _, RX, w, h, x, fun ds ρ' z' v H' O' hd g w' r => ⟨_, z', ds, _, w'.alloc, r, hd, fun d v H2 hd s r => k d ρ' z' v H2 O' hd (g.trans (w'.grow s).2) (w'.grow s).1 r⟩⟩
theorem de_fn {id : String} {f : FnD} {t : DX (List D)} {x : Str} {p : Pos} (hc : CallR X (.builtin id) (CallU X.K f)) (hg : Gl X x) (hm : X.mg x = none) (hv : bootBuiltins x = some (.builtin id)) (ha : DA X W (e :: es) t)
    (hn : x ≠ "__name__" := by decide) (hdb : (x == ("__debug__" : Str)) = false := by decide) (he : starEach (e :: es) X.env = (false, eval e X.env) :: starEach es X.env := by rfl)
    (hpl : (backTo pos (starEach es X.env)).any (·.1) = false := by rfl) : DE X W (.Call (.Name x p) (e :: es) [] pos) (dFn f t) := pe_to (pe_callB hc hg hm hv ha hn hdb he hpl) fun _ _ _ h => h.fn
theorem de_ty {T : String} {f : FnD} {t : DX (List D)} {x : Str} {p : Pos} (hc : CallR X (.type T) (CallU X.K f)) (hg : Gl X x) (hm : X.mg x = none) (hv : bootBuiltins x = some (.type T)) (ha : DA X W (e :: es) t)
    (hn : x ≠ "__name__" := by decide) (hdb : (x == ("__debug__" : Str)) = false := by decide) (he : starEach (e :: es) X.env = (false, eval e X.env) :: starEach es X.env := by rfl)
    (hpl : (backTo pos (starEach es X.env)).any (·.1) = false := by rfl) : DE X W (.Call (.Name x p) (e :: es) [] pos) (dFn f t) := pe_to (pe_callTy hc hg hm hv ha hn hdb he hpl) fun _ _ _ h => h.fn
def lenD : FnD
  | [.str z], k => z.length ≤ sizeLine ∧ k (.int z.length)
  | [.lst ds], k => k (.int ds.length)
  | [.rol ds], k => k (.int ds.length)
  | [.tup ds], k => k (.int ds.length)
  | _, _ => False
theorem cd_len : CallR X (.builtin "len") (CallU X.K lenD) := by
  rintro pins s σ H xs us Q I r ⟨N, z, ds, R, al, rp, h, k⟩
  unfold lenD at h
  split at h
  · obtain ⟨v, rfl, r1⟩ := rp.one
    obtain rfl := r1.str
    exact call_len_str pins s σ H _ us Q I r ⟨_, rfl, h.1, k _ _ H h.2 same0 .i⟩
  · obtain ⟨v, rfl, r1⟩ := rp.one
    obtain ⟨a, vs, rfl, q1, q2⟩ := r1.lst
    exact call_len_seq pins s σ H _ us Q I r ⟨a, vs, rfl, .inl (SqL.of q1), by rw [← q2.length]; exact k _ _ H h same0 .i⟩
  · obtain ⟨v, rfl, r1⟩ := rp.one
    obtain ⟨a, vs, rfl, q1, q2⟩ := r1.rol
    exact call_len_seq pins s σ H _ us Q I r ⟨a, vs, rfl, .inl q1, by rw [← q2.length]; exact k _ _ H h same0 .i⟩
  · obtain ⟨v, rfl, r1⟩ := rp.one
    obtain ⟨a, vs, rfl, q1, q2⟩ := r1.tup
    exact call_len_seq pins s σ H _ us Q I r ⟨a, vs, rfl, .inr q1, by rw [← q2.length]; exact k _ _ H h same0 .i⟩
  · exact h.elim
def absD : FnD
  | [.int i], k => k (.int (if i < 0 then -i else i))
  | _, _ => False
def mmD (f : Int → Int → Int) : FnD
  | [.int i, .int j], k => k (.int (f i j))
  | _, _ => False
abbrev minD : FnD := mmD fun i j => if j < i then j else i
abbrev maxD : FnD := mmD fun i j => if j > i then j else i
def intD : FnD
  | [.int i], k => k (.int i)
  | [.bl b], k => k (.int (if b then 1 else 0))
  | [.str z], k => ∃ n, PySem.intText? z = some n ∧ z.length ≤ 640 ∧ k (.int n)
  | _, _ => False
theorem cd_int : CallR X (.type "int") (CallU X.K intD) := by
  rintro pins s σ H xs us Q I r ⟨N, z, ds, R, al, rp, h, k⟩
  unfold intD at h
  split at h
  · obtain ⟨v, rfl, r1⟩ := rp.one
    obtain rfl := r1.int
    exact call_int1 pins s σ H _ us Q I r (.inl ⟨_, rfl, k _ _ H h same0 .i⟩)
  · obtain ⟨v, rfl, r1⟩ := rp.one
    obtain rfl := r1.bl
    exact call_int1 pins s σ H _ us Q I r (.inr ⟨_, rfl, k _ _ H h same0 .i⟩)
  · obtain ⟨v, rfl, r1⟩ := rp.one
    obtain rfl := r1.str
    obtain ⟨n, h1, h2, h⟩ := h
    exact call_int_str pins s σ H _ us Q I r ⟨_, n, rfl, h1, h2, k _ _ H h same0 .i⟩
  · exact h.elim
def strD : FnD
  | [.int i], k => i.natAbs.log2 < 1920 ∧ k (.str (toString i))
  | [.str z], k => k (.str z)
  | _, _ => False
theorem cd_str : CallR X (.type "str") (CallU X.K strD) := by
  rintro pins s σ H xs us Q I r ⟨N, z, ds, R, al, rp, h, k⟩
  unfold strD at h
  split at h
  · obtain ⟨v, rfl, r1⟩ := rp.one
    obtain rfl := r1.int
    exact call_str_int pins s σ H _ us Q I r ⟨_, rfl, h.1, k _ _ H h.2 same0 .s⟩
  · obtain ⟨v, rfl, r1⟩ := rp.one
    obtain rfl := r1.str
    exact SkE.call_str_str pins s σ H _ us Q I r ⟨_, rfl, k _ _ H h same0 .s⟩
  · exact h.elim
def reprD : FnD
  | [d], k => ∃ p, dat d = some p ∧ p.showable = true ∧ SeqAt.shaped p = true ∧ p.shown.length ≤ sizeLine ∧ k (.str p.shown)
  | _, _ => False
theorem cd_repr (hg : X.A.guards = some []) (hu : X.A.units + 150 < cLine) : CallR X (.builtin "repr") (CallU X.K reprD) := by
  rintro pins s σ H xs us Q I r ⟨N, z, ds, R, al, rp, h, k⟩
  unfold reprD at h
  split at h
  · obtain ⟨v, rfl, r1⟩ := rp.one
    obtain ⟨p, e, h1, h2, h3, h⟩ := h
    exact call_repr_any hg hu pins s σ H _ us Q I r ⟨v, p, rfl, datP_ok r1 e, h1, h2, h3, k _ _ H h same0 .s⟩
  · exact h.elim
def tupleD : FnD
  | [.lst ds], k => k (.tup ds)
  | [.rol ds], k => k (.tup ds)
  | [.tup ds], k => k (.tup ds)
  | _, _ => False
theorem cd_tuple : CallR X (.type "tuple") (CallU X.K tupleD) := by
  rintro pins s σ H xs us Q I r ⟨N, z, ds, R, al, rp, h, k⟩
  unfold tupleD at h
  split at h
  · obtain ⟨v, rfl, r1⟩ := rp.one
    obtain ⟨a, vs, rfl, q1, q2⟩ := r1.lst
    exact call_tuple_of pins s σ H _ us Q I r ⟨a, vs, rfl, .inl ⟨SqL.of q1, fun p hp => k _ _ _ h (same_new hp) (Rep.tupNew al hp (same_new hp) upd_same q2)⟩⟩
  · obtain ⟨v, rfl, r1⟩ := rp.one
    obtain ⟨a, vs, rfl, q1, q2⟩ := r1.rol
    exact call_tuple_of pins s σ H _ us Q I r ⟨a, vs, rfl, .inl ⟨q1, fun p hp => k _ _ _ h (same_new hp) (Rep.tupNew al hp (same_new hp) upd_same q2)⟩⟩
  · obtain ⟨v, rfl, r1⟩ := rp.one
    have t := r1.tupR
    obtain ⟨a, vs, rfl, q1, q2⟩ := r1.tup
    exact call_tuple_of pins s σ H _ us Q I r ⟨a, vs, rfl, .inr ⟨q1, k _ _ H h same0 t⟩⟩
  · exact h.elim
def listD : FnD
  | [.lst ds], k => k (.lst ds)
  | [.rol ds], k => k (.lst ds)
  | [.tup ds], k => k (.lst ds)
  | _, _ => False
theorem cd_list : CallR X (.type "list") (CallU X.K listD) := by
  rintro pins s σ H xs us Q I r ⟨N, z, ds, R, al, rp, h, k⟩
  unfold listD at h
  split at h
  · obtain ⟨v, rfl, r1⟩ := rp.one
    obtain ⟨a, vs, rfl, q1, q2⟩ := r1.lst
    exact call_list_of pins s σ H _ us Q I r ⟨a, vs, rfl, .inl (SqL.of q1), fun p hp => k _ _ _ h (same_new hp) (Rep.lstNew al hp (same_new hp) upd_same q2)⟩
  · obtain ⟨v, rfl, r1⟩ := rp.one
    obtain ⟨a, vs, rfl, q1, q2⟩ := r1.rol
    exact call_list_of pins s σ H _ us Q I r ⟨a, vs, rfl, .inl q1, fun p hp => k _ _ _ h (same_new hp) (Rep.lstNew al hp (same_new hp) upd_same q2)⟩
  · obtain ⟨v, rfl, r1⟩ := rp.one
    obtain ⟨a, vs, rfl, q1, q2⟩ := r1.tup
    exact call_list_of pins s σ H _ us Q I r ⟨a, vs, rfl, .inr q1, fun p hp => k _ _ _ h (same_new hp) (Rep.lstNew al hp (same_new hp) upd_same q2)⟩
  · exact h.elim
def sumD : FnD
  | [.lst ds], k => ∃ ns : List Int, ds = ns.map D.int ∧ k (.int ns.sum)
  | _, _ => False
theorem Reps.toBls {K : PySem.W.Frag} {N : Addr → Prop} {H : Hp} {ns : List Bool} {vs : List V} (h : Reps K N H (ns.map D.bl) vs) : vs = ns.map V.bl := by
  induction ns generalizing vs with
  | nil => rwa [List.map_nil, Reps] at h
  | cons n ns ih =>
    rw [List.map_cons, Reps] at h
    obtain ⟨v, r, rfl, h2, h3⟩ := h
    rw [Rep] at h2
    rw [h2, ih h3]; rfl
def anyD (f : List Bool → Bool) : FnD
  | [.lst ds], k => ∃ bs : List Bool, ds = bs.map D.bl ∧ k (.bl (f bs))
  | _, _ => False
theorem cd_any (hc : X.calm = true) : CallR X (.builtin "any") (CallU X.K (anyD fun bs => bs.any id)) := by
  rintro pins s σ H xs us Q I r ⟨N, z, ds, R, al, rp, h, k⟩
  unfold anyD at h
  split at h
  · obtain ⟨v, rfl, r1⟩ := rp.one
    obtain ⟨a, vs, rfl, q1, q2⟩ := r1.lst
    obtain ⟨bs, rfl, h⟩ := h
    obtain rfl := q2.toBls
    exact cr_any hc pins s σ H _ us Q I r ⟨a, bs, rfl, SqL.of q1, k _ _ H h same0 .b⟩
  · exact h.elim
/-! ### isinstance -/
structure OwnTy (K : PySem.W.Frag) (C : Addr) : Prop where
  cl : Cls K C
  ha : PySem.W.findIn K (.ref C) "__class__" = some (some (.builtin "object.__class__"))
  hn : PySem.W.specialIn K (.builtin "object.__class__") "__get__" = some (some (.builtin "getset_descriptor.__get__"))
  htk : PySem.W.takesIn K (.builtin "object.__class__") = some true
  hm : PySem.W.mroIn K C (.type "object") = some true
theorem Own.oty {K : PySem.W.Frag} {C : Addr} {fs : List Str} (O : Own K C fs) : OwnTy K C := ⟨O.cl, O.ha, O.hn, O.htk, O.hm⟩
def tyD (K : PySem.W.Frag) : D → Value → Prop
  | .non, t => t = .type "NoneType"
  | .bl _, t => t = .type "bool"
  | .int _, t => t = .type "int"
  | .str _, t => t = .type "str"
  | .lst _, t => t = .type "list"
  | .tup _, t => t = .type "tuple"
  | .ins C _ _, t => t = .ref C ∧ OwnTy K C
  | .dic _ _, t => t = .type "dict"
  | _, _ => False
theorem tyX_of {K : PySem.W.Frag} {N : Addr → Prop} {z : Z} {H : Hp} {d : D} {v : V} {t : Value} (r : RepP K N z H d v) (h : tyD K d t) : TyX K H v t := by
  cases d with
  | non => obtain rfl := r.non; cases h; exact .base .non
  | bl b => obtain rfl := r.bl; cases h; exact .base (.bl b)
  | int b => obtain rfl := r.int; cases h; exact .base (.int b)
  | str b => obtain rfl := r.str; cases h; exact .base (.str b)
  | lst ds => obtain ⟨a, vs, rfl, q, _⟩ := r.lst; cases h; exact .base (.lst q)
  | tup ds =>
    obtain ⟨a, vs, rfl, q, _⟩ := r.tup
    cases h
    rcases q with (q | ⟨o, q⟩) | ⟨o, its, n, q, q2, _⟩
    · exact .base (.tup q)
    · exact .fTuple q
    · exact .kTuple q q2
  | dic ks ds => obtain ⟨a, o, vs, rfl, q, _⟩ := r.dic; cases h; exact .fDict q
  | ins C ns ds => obtain ⟨a, dx, vs, rfl, q, _⟩ := r.ins; obtain ⟨rfl, O⟩ := h; exact .base (.ins q O.cl O.ha O.hn O.htk O.hm)
  | _ => exact h.elim
def clsD : D → Option Value
  | .ty n => some (.type n)
  | .adr C => some (.ref C)
  | _ => none
def isiD (K : PySem.W.Frag) : FnD
  | [d, c], k => ∃ t u b, tyD K d t ∧ clsD c = some u ∧ PySem.W.kitOne K t u = some b ∧ k (.bl b)
  | _, _ => False
theorem cd_isi : CallR X (.builtin "isinstance") (CallU X.K (isiD X.K)) := by
  rintro pins s σ H xs us Q I r ⟨N, z, ds, R, al, rp, h, k⟩
  unfold isiD at h
  split at h
  · obtain ⟨v, w, rfl, r1, r2⟩ := rp.two
    obtain ⟨t, u, b, h1, h2, h3, h⟩ := h
    rename_i d c
    refine call_isi pins s σ H _ us Q I r ⟨v, w, t, u, b, rfl, ?_, tyX_of r1 h1, h3, k _ _ H h same0 .b⟩
    cases c with
    | ty n => cases h2; rw [r2.ty]; exact .ty n
    | adr C => cases h2; rw [r2.adr]; exact .own C
    | _ => cases h2
  · exact h.elim
/-! ### fields -/
def AttrOk (K : PySem.W.Frag) (C : Addr) (f : Str) : Prop := Cls K C ∧ NoAttr K C f
theorem Own.at {K : PySem.W.Frag} {C : Addr} {fs : List Str} (O : Own K C fs) {f : Str} (h : f ∈ fs) : AttrOk K C f := ⟨O.cl, O.no f h⟩
def fldD (K : PySem.W.Frag) (f : Str) : D → (D → Prop) → Prop
  | .ins C ns ds, k => AttrOk K C f ∧ ∃ d, (ns.zip ds).lookup f = some d ∧ k d
  | _, _ => False
theorem lookup_reps {K : PySem.W.Frag} {N : Addr → Prop} {H : Hp} {f : Str} : ∀ {ns : List Str} {ds : List D} {vs : List V} {d : D}, Reps K N H ds vs → (ns.zip ds).lookup f = some d → ∃ v, (ns.zip vs).lookup f = some v ∧ Rep K N H d v
  | [], ds, vs, d, r, h => by simp at h
  | n :: ns, [], vs, d, r, h => by simp at h
  | n :: ns, d' :: ds, vs, d, r, h => by
    rw [Reps] at r
    obtain ⟨v, vr, rfl, h1, h2⟩ := r
    rw [List.zip_cons_cons] at h ⊢
    rw [List.lookup_cons] at h ⊢
    cases e : f == n with
    | true => rw [e] at h; cases h; exact ⟨v, rfl, h1⟩
    | false => rw [e] at h; exact lookup_reps h2 h
theorem de_fld {t : DX D} {f : Str} (he : DP X W e t) (hb : attributeBase e f X.env (eval e X.env) = eval e X.env) : DE X W (.Attribute e f pos) (dUn (fldD X.K f) t) := pe_to (pe_fld he hb) fun σ H Q ⟨M, ρ, z, O, R, RX, w, h, x, k⟩ =>
  ⟨M, ρ, z, O, _, RX, w, h, x, fun d ρ' z' v H' O' hd g w' r => by
    cases d with
    | ins C ns ds =>
      obtain ⟨⟨q1, q2⟩, d, q3, hd⟩ := hd
      obtain ⟨a, dx, vs, rfl, h1, h2, h3⟩ := r.ins
      obtain ⟨u, h4, h5⟩ := lookup_reps h3 q3
      exact ⟨a, C, dx, _, u, rfl, h1, q1, q2, h4, k _ ρ' z' _ H' O' hd g w' h5⟩
    | _ => exact hd.elim⟩
/-! ### methods of texts -/
abbrev FnS := Str → List D → (D → Prop) → Prop
def MtS (K : PySem.W.Frag) (f : FnS) : V → List V → Hp → VK → Prop := fun x xs H Q => ∃ N z y ds R, (∀ a, N a → H a ≠ none) ∧ x = .str y ∧ RepPs K N z H ds xs ∧ f y ds R ∧ ∀ d v H', R d → Same H H' → Rep K N H' d v → Q v H'
def dMt (f : FnS) (to : DX D) (t : DX (List D)) : DX D := fun ρ z R RX => to ρ z (fun d ρ1 z1 => ∃ y, d = .str y ∧ t ρ1 z1 (fun ds ρ2 z2 => f y ds fun r => R r ρ2 z2) RX) RX
theorem UG.mt {K : PySem.W.Frag} {f : FnS} {to : DX D} {t : DX (List D)} {σ : L2.St} {H : Hp} {Q : VK} (h : UG K W (relE K) (dMt f to t) σ H Q) : tBM K "str" (MtS K f) (UG K W (RepP K) to) (UG K W (RepPs K) t) σ H Q := by
  obtain ⟨M, ρ, z, O, R, RX, w, h, x, k⟩ := h
  refine ⟨M, ρ, z, O, _, RX, w, h, x, fun d ρ1 z1 v H1 O1 ⟨y, hy, hd⟩ g1 w1 r1 => ?_⟩
  subst hy
  obtain rfl := r1.str
  refine ⟨rfl, M, ρ1, z1, O1, _, RX, w1, hd, x.after g1.toGo, fun ds ρ2 z2 vs H2 O2 h2 g2 w2 r2 => ⟨_, z2, y, ds, _, w2.alloc, rfl, r2, h2, fun d v H3 hd s r => k d ρ2 z2 v H3 O2 hd (g1.trans (g2.trans (w2.grow s).2)) (w2.grow s).1 r⟩⟩
theorem de_mt {id : String} {name : Str} {o : Expr} {apos : Pos} {f : FnS} {to : DX D} {t : DX (List D)} (slot : Slot "str" name id) (hty : typeOf (.builtin id) = pure (.type "method_descriptor")) (hm : MtR X id (MtS X.K f)) (ho : DP X W o to) (ha : DA X W (e :: es) t)
    (hbase : attributeBase o name X.env (eval o X.env) = eval o X.env := by rfl)
    (hfew : ((backTo pos (starEach (e :: es) X.env)).all (fun x => !x.1) && (backToKw pos (keywordEach [] X.env)).all (fun x => x.1.isSome)
      && decide ((e :: es).length + ([] : List Keyword).length + (if ([] : List Keyword).isEmpty then 0 else 1) < 30)) = true := by rfl)
    (hline : (apos.endLine == pos.line) = true := by rfl) (hs : starEach (e :: es) X.env = (false, eval e X.env) :: starEach es X.env := by rfl) (hplain : (backTo pos (starEach es X.env)).any (·.1) = false := by rfl) :
    DE X W (.Call (.Attribute o name apos) (e :: es) [] pos) (dMt f to t) := pe_to (pe_bm PySem.F.plainAttrs_str slot hty hm ho ha hbase hfew hline hs hplain) fun _ _ _ h => h.mt
def dMt0 (f : FnS) (to : DX D) : DX D := fun ρ z R RX => to ρ z (fun d ρ1 z1 => ∃ y, d = .str y ∧ f y [] fun r => R r ρ1 z1) RX
def splitD : FnS
  | z, [.str y], k => (y.length == 0) = false ∧ z.length + 2 ≤ sizeLine ∧ k (.lst ((Txt.split z y).map .str))
  | _, _, _ => False
theorem md_split : MtR X "str.split" (MtS X.K splitD) := by
  rintro pins s σ H x xs v us Q I rx rs ⟨N, z, y, ds, R, al, rfl, rp, h, k⟩
  unfold splitD at h
  split at h
  · obtain ⟨w, rfl, r1⟩ := rp.one
    obtain rfl := r1.str
    exact mt_split pins s σ H _ _ v us Q I rx rs ⟨_, _, rfl, rfl, h.1, h.2.1, fun p hp => k _ _ _ h.2.2 (same_new hp) (Rep.lstNew al hp (same_new hp) upd_same Reps.strs)⟩
  · exact h.elim
def joinD : FnS
  | z, [.lst ds], k => ∃ ys : List Str, ds = ys.map .str ∧ (ys.map (·.length)).sum + ys.length * z.length ≤ 16777216 ∧ k (.str (Txt.join z ys))
  | z, [.tup ds], k => ∃ ys : List Str, ds = ys.map .str ∧ (ys.map (·.length)).sum + ys.length * z.length ≤ 16777216 ∧ k (.str (Txt.join z ys))
  | _, _, _ => False
theorem md_join : MtR X "str.join" (MtS X.K joinD) := by
  rintro pins s σ H x xs v us Q I rx rs ⟨N, z, y, ds, R, al, rfl, rp, h, k⟩
  unfold joinD at h
  split at h
  · obtain ⟨w, rfl, r1⟩ := rp.one
    obtain ⟨a, vs, rfl, q1, q2⟩ := r1.lst
    obtain ⟨ys, rfl, h1, h⟩ := h
    obtain rfl := q2.toStrs
    exact mt_join pins s σ H _ _ v us Q I rx rs ⟨_, a, ys, rfl, rfl, .inl (SqL.of q1), h1, k _ _ H h same0 .s⟩
  · obtain ⟨w, rfl, r1⟩ := rp.one
    obtain ⟨a, vs, rfl, q1, q2⟩ := r1.tup
    obtain ⟨ys, rfl, h1, h⟩ := h
    obtain rfl := q2.toStrs
    exact mt_join pins s σ H _ _ v us Q I rx rs ⟨_, a, ys, rfl, rfl, .inr q1, h1, k _ _ H h same0 .s⟩
  · exact h.elim
/-- a method of one text -/
def str1D (C : Str → Str → Prop) (g : Str → Str → D) : FnS
  | z, [.str y], k => C z y ∧ k (g z y)
  | _, _, _ => False
theorem md_1 {id : String} {C : Str → Str → Prop} {g : Str → Str → D} {gv : Str → Str → V} (h : MtR X id (fun x xs H Q => ∃ a b, x = .str a ∧ xs = [.str b] ∧ C a b ∧ Q (gv a b) H)) (r : ∀ N H a b, Rep X.K N H (g a b) (gv a b)) : MtR X id (MtS X.K (str1D C g)) := by
  rintro pins s σ H x xs v us Q I rx rs ⟨N, z, y, ds, R, al, rfl, rp, h', k⟩
  unfold str1D at h'
  split at h'
  · obtain ⟨w, rfl, r1⟩ := rp.one
    obtain rfl := r1.str
    exact h pins s σ H _ _ v us Q I rx rs ⟨_, _, rfl, rfl, h'.1, k _ _ H h'.2 same0 (r _ _ _ _)⟩
  · exact h'.elim
theorem md_1' {id : String} {g : Str → Str → D} {gv : Str → Str → V} (h : MtR X id (fun x xs H Q => ∃ a b, x = .str a ∧ xs = [.str b] ∧ Q (gv a b) H)) (r : ∀ N H a b, Rep X.K N H (g a b) (gv a b)) : MtR X id (MtS X.K (str1D (fun _ _ => True) g)) :=
  md_1 (gv := gv) (fun pins s σ H x xs v us Q I rx rs ⟨a, b, h1, h2, _, q⟩ => h pins s σ H x xs v us Q I rx rs ⟨a, b, h1, h2, q⟩) r
theorem md_count : MtR X "str.count" (MtS X.K (str1D (fun _ _ => True) fun a b => .int (Txt.count a b))) := md_1' mt_count fun _ _ _ _ => .i
/-! ### texts of parts -/
def DF (X : Cx) (W : WX) (e : Expr) (t : DX Str) : Prop := PE X e (UG X.K W (fun _ _ _ s (v : V) => v = .str s) t)
def dFs (s : Str) : DX Str := fun ρ z R RX => R s ρ z
theorem df_str {y j} : DF X W (.Constant (.str y) j pos) (dFs y) := pe_to pe_str fun σ H Q ⟨M, ρ, z, O, R, RX, w, h, x, k⟩ => k y ρ z _ H O h .refl w rfl
def fmtD : D → (Str → Prop) → Prop
  | .str y, k => y.length ≤ sizeLine ∧ k y
  | .int i, k => i.natAbs.log2 < 1920 ∧ k (toString i)
  | _, _ => False
def dFmt (t : DX D) : DX Str := fun ρ z R RX => t ρ z (fun d ρ' z' => fmtD d fun s => R s ρ' z') RX
theorem df_fmt {t : DX D} (he : DP X W e t) : DF X W (.FormattedValue e (-1) none pos) (dFmt t) := pe_to (pe_fmt he) fun σ H Q ⟨M, ρ, z, O, R, RX, w, h, x, k⟩ =>
  ⟨M, ρ, z, O, _, RX, w, h, x, fun d ρ' z' v H' O' hd g w' r => by
    cases d with
    | str y => exact .inl ⟨y, r.str, hd.1, k _ ρ' z' _ H' O' hd.2 g w' rfl⟩
    | int i => exact .inr ⟨i, r.int, hd.1, k _ ρ' z' _ H' O' hd.2 g w' rfl⟩
    | _ => exact hd.elim⟩
def dJs : List (DX Str) → Str → DX Str
  | [], acc => fun ρ z R RX => R acc ρ z
  | t :: ts, acc => fun ρ z R RX => t ρ z (fun y ρ' z' => (acc ++ y).length ≤ sizeLine ∧ dJs ts (acc ++ y) ρ' z' R RX) RX
theorem UG.js {K : PySem.W.Frag} {σ : L2.St} {Q : Str → Hp → Prop} : ∀ {ts : List (DX Str)} {acc : Str} {H : Hp}, UG K W (fun _ _ _ (s v : Str) => v = s) (dJs ts acc) σ H Q →
    tJs (ts.map fun t => UG K W (fun _ _ _ s (v : V) => v = .str s) t) acc σ H Q
  | [], acc, H, ⟨M, ρ, z, O, R, RX, w, h, x, k⟩ => k acc ρ z acc H O h .refl w rfl
  | t :: ts, acc, H, ⟨M, ρ, z, O, R, RX, w, h, x, k⟩ => ⟨M, ρ, z, O, _, RX, w, h, x, fun y ρ' z' v H' O' ⟨hl, hd⟩ g w' r => ⟨y, r, hl, UG.js ⟨M, ρ', z', O', R, RX, w', hd, x.after g.toGo, fun d ρ2 z2 v H2 O2 h2 g2 w2 r2 => k d ρ2 z2 v H2 O2 h2 (g.trans g2) w2 r2⟩⟩⟩
def dJoin (t : DX Str) : DX D := fun ρ z R RX => t ρ z (fun y ρ' z' => R (.str y) ρ' z') RX
abbrev relF : (Addr → Prop) → Z → Hp → Str → V → Prop := fun _ _ _ s v => v = .str s
theorem pj_nil : PJ X [] (([] : List (DX Str)).map fun t => UG X.K W relF t) := .nil
theorem pj_cons {t : DX Str} {ts : List (DX Str)} (h : DF X W e t) (r : PJ X es (ts.map fun t => UG X.K W relF t)) : PJ X (e :: es) ((t :: ts).map fun t => UG X.K W relF t) := .cons h r
theorem de_joined {v1 v2 : Expr} {ts : List (DX Str)} (h : PJ X (v1 :: v2 :: es) (ts.map fun t => UG X.K W relF t)) : DE X W (.JoinedStr (v1 :: v2 :: es) pos) (dJoin (dJs ts Str.empty)) := pe_to (pe_joined h) fun σ H Q ⟨M, ρ, z, O, R, RX, w, h, x, k⟩ =>
  UG.js ⟨M, ρ, z, O, _, RX, w, h, x, fun d ρ' z' v H' O' hd g w' r => by
    obtain rfl : v = d := r
    exact k _ ρ' z' _ H' O' hd g w' .s⟩
end
end Lay

set_option Elab.async false
set_option linter.all false
set_option maxRecDepth 100000
set_option maxHeartbeats 2000000
namespace Lay
open PySem PySem.Spec PyProof.Rows L2
/-! ### statements -/
structure DEnds where
  nx : List Sl → Z → Prop
  rt : D → Z → Prop
  ex : KX
  bk : List Sl → Z → Prop := fun _ _ => False
  ct : List Sl → Z → Prop := fun _ _ => False
abbrev DTS := DEnds → List Sl → Z → Prop
structure EndsOk (K : PySem.W.Frag) (M : Addr → Prop) (W : WX) (H : Hp) (z : Z) (O : Nat → Option Addr) (R : DEnds) (D : Ends) : Prop where
  nx : ∀ ρ' z' σ' H' O', R.nx ρ' z' → Go M H z O H' z' O' → Wd K M H' σ' ρ' z' O' → D.nx σ' H'
  bk : ∀ ρ' z' σ' H' O', R.bk ρ' z' → Go M H z O H' z' O' → Wd K M H' σ' ρ' z' O' → D.bk σ' H'
  ct : ∀ ρ' z' σ' H' O', R.ct ρ' z' → Go M H z O H' z' O' → Wd K M H' σ' ρ' z' O' → D.ct σ' H'
  rt : ∀ d ρ' z' v σ' H' O', R.rt d z' → Go M H z O H' z' O' → Wd K M H' σ' ρ' z' O' → Rep K (NN M z' O') H' d v → D.rt v H'
  ex : XOk K M W H z O R.ex
theorem EndsOk.after {K : PySem.W.Frag} {M : Addr → Prop} {W : WX} {H H1 : Hp} {z z1 : Z} {O O1 : Nat → Option Addr} {R : DEnds} {D : Ends} (x : EndsOk K M W H z O R D) (g : Go M H z O H1 z1 O1) : EndsOk K M W H1 z1 O1 R D :=
  ⟨fun ρ' z' σ' H' O' h k w => x.nx ρ' z' σ' H' O' h (g.trans k) w, fun ρ' z' σ' H' O' h k w => x.bk ρ' z' σ' H' O' h (g.trans k) w, fun ρ' z' σ' H' O' h k w => x.ct ρ' z' σ' H' O' h (g.trans k) w,
    fun d ρ' z' v σ' H' O' h k w r => x.rt d ρ' z' v σ' H' O' h (g.trans k) w r, x.ex.after g⟩
def US (K : PySem.W.Frag) (W : WX) (t : DTS) : TS := fun D σ H => ∃ M ρ z O R, Wd K M H σ ρ z O ∧ t R ρ z ∧ EndsOk K M W H z O R D
def DS (X : Cx) (W : WX) (st : Stmt) (t : DTS) : Prop := PS X st (US X.K W t)
def DSs (X : Cx) (W : WX) (st : List Stmt) (t : DTS) : Prop := PSs X st (US X.K W t)
section
variable {X : Cx} {W : WX} {e a b : Expr} {es : List Expr} {st : Stmt} {sts : List Stmt} {pos : Pos}
def dNext : DTS := fun R ρ z => R.nx ρ z
def dSeq (t u : DTS) : DTS := fun R ρ z => t { R with nx := u R } ρ z
theorem dss_nil : DSs X W [] dNext := pss_to pss_nil fun D σ H ⟨M, ρ, z, O, R, w, h, k⟩ => k.nx ρ z σ H O h .refl w
theorem dss_cons {t u : DTS} (h1 : DS X W st t) (h2 : DSs X W sts u) : DSs X W (st :: sts) (dSeq t u) := pss_to (pss_cons h1 h2) fun D σ H ⟨M, ρ, z, O, R, w, h, k⟩ =>
  ⟨M, ρ, z, O, _, w, h, ⟨fun ρ' z' σ' H' O' h g w' => ⟨M, ρ', z', O', R, w', h, k.after g⟩, k.bk, k.ct, k.rt, k.ex⟩⟩
theorem dss_one {t : DTS} (h1 : DS X W st t) : DSs X W [st] t := pss_one h1
def dDrop (t : DX D) : DTS := fun R ρ z => t ρ z (fun _ ρ' z' => R.nx ρ' z') R.ex
theorem ds_expr {t : DX D} (he : DE X W e t) (hs : swapsWith e none pos.line X.env = pure false := by rfl) : DS X W (.Expr e pos) (dDrop t) := ps_to (ps_expr he hs) fun D σ H ⟨M, ρ, z, O, R, w, h, k⟩ =>
  ⟨M, ρ, z, O, _, R.ex, w, h, k.ex, fun d ρ' z' v H' O' hd g w' r => k.nx ρ' z' σ H' O' hd g.toGo w'⟩
def dRet (t : DX D) : DTS := fun R ρ z => t ρ z (fun d _ z' => R.rt d z') R.ex
theorem ds_ret {t : DX D} (he : DE X W e t) : DS X W (.Return (some e) pos) (dRet t) := ps_to (ps_ret he) fun D σ H ⟨M, ρ, z, O, R, w, h, k⟩ =>
  ⟨M, ρ, z, O, _, R.ex, w, h, k.ex, fun d ρ' z' v H' O' hd g w' r => k.rt d ρ' z' v σ H' O' hd g.toGo w' r⟩
def dIf (c : DX Bool) (t u : DTS) : DTS := fun R ρ z => c ρ z (fun b ρ' z' => if b = true then t R ρ' z' else u R ρ' z') R.ex
theorem ds_if {c : Expr} {as bs : List Stmt} {tc : DX Bool} {t u : DTS} (hc : DT X W c tc) (ha : DSs X W as t) (hb : DSs X W bs u) : DS X W (.If c as bs pos) (dIf tc t u) := ps_to (ps_if hc ha hb) fun D σ H ⟨M, ρ, z, O, R, w, h, k⟩ =>
  ⟨M, ρ, z, O, _, R.ex, w, h, k.ex, fun b ρ' z' c H' O' hd g w' r => by
    obtain rfl : c = b := r
    cases c with
    | true => rw [if_pos rfl] at hd ⊢; exact ⟨M, ρ', z', O', R, w', hd, k.after g.toGo⟩
    | false => rw [if_neg Bool.false_ne_true] at hd ⊢; exact ⟨M, ρ', z', O', R, w', hd, k.after g.toGo⟩⟩
def dCut (t : DTS) : DTS := fun R ρ z => ∃ S : List Sl → Z → Prop, t { R with nx := S } ρ z ∧ ∀ ρ' z', S ρ' z' → R.nx ρ' z'
theorem ds_cut {t : DTS} (h : DS X W st t) : DS X W st (dCut t) := ps_to h fun D σ H ⟨M, ρ, z, O, R, w, ⟨S, h, i⟩, k⟩ =>
  ⟨M, ρ, z, O, _, w, h, ⟨fun ρ' z' σ' H' O' h => k.nx ρ' z' σ' H' O' (i ρ' z' h), k.bk, k.ct, k.rt, k.ex⟩⟩
/-! ### targets -/
abbrev DTG := D → List Sl → Z → (List Sl → Z → Prop) → Prop
abbrev DTGs := List D → List Sl → Z → (List Sl → Z → Prop) → Prop
/-- a target: the slots vs are stored -/
def UT (K : PySem.W.Frag) (ss : List Nat) (g : DTG) : TG := fun v σ H Q => ∃ M ρ z O d R, Wd K M H σ ρ z O ∧ Rep K (NN M z O) H d v ∧ g d ρ z R ∧
  ∀ ρ' z' σ' H' O', R ρ' z' → GoE M H z O H' z' O' → Wd K M H' σ' ρ' z' O' → σ'.length = σ.length → (∀ j, j ∉ ss → σ'[j]? = σ[j]?) → Q σ' H'
def UTs (K : PySem.W.Frag) (ss : List Nat) (g : DTGs) : TGs := fun vs σ H Q => ∃ M ρ z O ds R, Wd K M H σ ρ z O ∧ Reps K (NN M z O) H ds vs ∧ g ds ρ z R ∧
  ∀ ρ' z' σ' H' O', R ρ' z' → GoE M H z O H' z' O' → Wd K M H' σ' ρ' z' O' → σ'.length = σ.length → (∀ j, j ∉ ss → σ'[j]? = σ[j]?) → Q σ' H'
def DG (X : Cx) (e : Expr) (ss : List Nat) (g : DTG) : Prop := PG X e (UT X.K ss g)
def DGs (X : Cx) (es : List Expr) (ss : List Nat) (g : DTGs) : Prop := PGs X es (UTs X.K ss g)
theorem pg_to {g g' : TG} (h : PG X e g) (i : ∀ v σ H Q, g' v σ H Q → g v σ H Q) : PG X e g' := ⟨fun pins s σ H v u Q I r q => h.run pins s σ H v u Q I r (i v σ H Q q)⟩
theorem pgs_to {g g' : TGs} (h : PGs X es g) (i : ∀ v σ H Q, g' v σ H Q → g v σ H Q) : PGs X es g' := ⟨fun pins s σ H v u Q I r q => h.run pins s σ H v u Q I r (i v σ H Q q)⟩
def dgName (i : Nat) : DTG := fun d ρ z R => R (ρ.set i (.val d)) z
theorem Wd.set {K : PySem.W.Frag} {M : Addr → Prop} {H : Hp} {σ : L2.St} {ρ : List Sl} {z : Z} {O : Nat → Option Addr} (w : Wd K M H σ ρ z O) (i : Nat) {d : D} {v : V} (r : Rep K (NN M z O) H d v) :
    Wd K M H (σ.set i (some v)) (ρ.set i (.val d)) z (off O i) := w.setv i _ (List.length_set ..) (fun j hj => List.getElem?_set_ne (Ne.symm hj)) fun hi => by
  rw [List.getElem?_set_self (by rw [w.len]; exact hi)]
  exact ⟨rfl, v, rfl, Rep.mono ⟨fun a o q _ => q, fun a q => .inl q.off⟩ _ _ r⟩
theorem dg_name {i : Nat} {x : Str} (hN : X.N.Nodup) (hi : X.N[i]? = some x) (hx : Loc X.env.scope x) (hf : X.fn x = true ∨ X.env.scope.names.lookup x = some .local := by first | exact .inl rfl | exact .inr rfl | assumption) : DG X (.Name x pos) [i] (dgName i) :=
  pg_to (pg_name hN hi hx hf) fun v σ H Q ⟨M, ρ, z, O, d, R, w, r, h, k⟩ => k _ z _ H _ h .off (w.set i r) (List.length_set ..) fun j hj => List.getElem?_set_ne fun e => hj (by rw [e]; exact List.mem_singleton.mpr rfl)
def dgNil : DTGs := fun ds ρ z R => ds = [] ∧ R ρ z
def dgCons (g : DTG) (gs : DTGs) : DTGs := fun ds ρ z R => match ds with | d :: r => g d ρ z (fun ρ' z' => gs r ρ' z' R) | [] => False
theorem dgs_nil : DGs X [] [] dgNil := pgs_to pgs_nil fun vs σ H Q ⟨M, ρ, z, O, ds, R, w, r, ⟨h0, h⟩, k⟩ => by subst h0; rw [Reps] at r; exact ⟨r, k ρ z σ H O h .refl w rfl fun _ _ => rfl⟩
theorem dgs_cons {s1 s2 : List Nat} {g : DTG} {gs : DTGs} (h1 : DG X e s1 g) (h2 : DGs X es s2 gs)
    (he : (assignEach (e :: es) X.env).map (fun x => x.2) = assign e X.env :: (assignEach es X.env).map (fun x => x.2) := by rfl) : DGs X (e :: es) (s1 ++ s2) (dgCons g gs) := pgs_to (pgs_cons h1 h2 he) fun vs σ H Q ⟨M, ρ, z, O, ds, R, w, r, h, k⟩ => by
  cases ds with
  | nil => exact h.elim
  | cons d ds =>
    rw [Reps] at r
    obtain ⟨v, vr, rfl, r1, r2⟩ := r
    exact ⟨v, vr, rfl, M, ρ, z, O, d, _, w, r1, h, fun ρ' z' σ' H' O' h' g' w' l1 e1 => ⟨M, ρ', z', O', ds, R, w', Reps.mono g'.ext _ _ r2, h', fun ρ2 z2 σ2 H2 O2 h2 g2 w2 l2 e2 => k ρ2 z2 σ2 H2 O2 h2 (g'.trans g2) w2 (l2.trans l1)
      fun j hj => (e2 j fun m => hj (List.mem_append_right _ m)).trans (e1 j fun m => hj (List.mem_append_left _ m))⟩⟩
def dgTup (n : Nat) (gs : DTGs) : DTG := fun d ρ z R => match d with | .tup ds => ds.length = n ∧ gs ds ρ z R | _ => False
theorem dg_tup {k : Nat} {ss : List Nat} {gs : DTGs} {n : Nat} (hc : X.calm = true) (h : DGs X es ss gs) (hn : (assignEach es X.env).length = n := by rfl) (hst : (assignEach es X.env).findIdx? (·.1) = none := by rfl) : DG X (.Tuple es k pos) ss (dgTup n gs) :=
  pg_to (pg_tup hc h hn hst) fun v σ H Q ⟨M, ρ, z, O, d, R, w, r, h, k⟩ => by
    cases d with
    | tup ds =>
      obtain ⟨a, vs, rfl, h1, h2⟩ := RepP.tup (z := z) (.inl r)
      exact ⟨a, vs, rfl, h1, by rw [← h2.length]; exact h.1, M, ρ, z, O, ds, R, w, h2, h.2, k⟩
    | _ => exact h.elim
def dAsg (t : DX D) (g : DTG) : DTS := fun R ρ z => t ρ z (fun d ρ' z' => g d ρ' z' R.nx) R.ex
theorem ds_asg {tg : Expr} {ss : List Nat} {t : DX D} {g : DTG} (he : DE X W e t) (hg : DG X tg ss g) (hs : swapsWithSole [tg] e pos.line X.env = pure false := by rfl) (hw : swappedStores [tg] e X.env = pure none := by rfl)
    (h1 : (assignEach [tg] X.env).map (·.2) = [assign tg X.env] := by rfl) : DS X W (.Assign [tg] e pos) (dAsg t g) := ps_to (ps_asg he hg hs hw h1) fun D σ H ⟨M, ρ, z, O, R, w, h, k⟩ =>
  ⟨M, ρ, z, O, _, R.ex, w, h, k.ex, fun d ρ' z' v H' O' hd g w' r => ⟨M, ρ', z', O', d, _, w', r, hd, fun ρ2 z2 σ2 H2 O2 h2 g2 w2 _ _ => k.nx ρ2 z2 σ2 H2 O2 h2 (g.toGo.trans g2.toGo) w2⟩⟩
def dSet (i : Nat) (t : DX D) : DTS := fun R ρ z => t ρ z (fun d ρ' z' => R.nx (ρ'.set i (.val d)) z') R.ex
theorem ds_set {i : Nat} {x : Str} {t : DX D} {pos' : Pos} (hN : X.N.Nodup) (hi : X.N[i]? = some x) (hx : Loc X.env.scope x) (he : DE X W e t) (hs : swapsWith e (some (.Name x pos')) pos.line X.env = pure false := by rfl)
    (hf : X.fn x = true ∨ X.env.scope.names.lookup x = some .local := by first | exact .inl rfl | exact .inr rfl | assumption) : DS X W (.Assign [.Name x pos'] e pos) (dSet i t) := ps_to (ps_set hN hi hx he hs hf) fun D σ H ⟨M, ρ, z, O, R, w, h, k⟩ =>
  ⟨M, ρ, z, O, _, R.ex, w, h, k.ex, fun d ρ' z' v H' O' hd g w' r => k.nx _ z' _ H' _ hd (g.trans .off).toGo (w'.set i r)⟩
/-! ### own lists -/
theorem NN.on {M : Addr → Prop} {z : Z} {O : Nat → Option Addr} {i : Nat} {p a : Addr} (h : NN M z (fun j => if j = i then some p else O j) a) : NN M z O a ∨ a = p := by
  rcases h with h | h | ⟨j, h⟩
  · exact .inl (.inl h)
  · exact .inl (.inr (.inl h))
  · replace h : (if j = i then some p else O j) = some a := h
    by_cases hj : j = i
    · rw [if_pos hj] at h; cases h; exact .inr rfl
    · rw [if_neg hj] at h; exact .inl (.inr (.inr ⟨j, h⟩))
/-- slot i takes what is new at p -/
theorem Wd.seto {K : PySem.W.Frag} {M : Addr → Prop} {H H' : Hp} {σ : L2.St} {ρ : List Sl} {z : Z} {O : Nat → Option Addr} (w : Wd K M H σ ρ z O) (i : Nat) (hi : i < ρ.length) {p : Addr} (hp : H p = none) (sm : Same H H') {s : Sl}
    (hp' : H' p ≠ none) (hs : SlotOk K (NN M z fun j => if j = i then some p else O j) H' (some (.ref p)) s (some p)) :
    Wd K M H' (σ.set i (some (.ref p))) (ρ.set i s) z (fun j => if j = i then some p else O j) ∧ Go M H z O H' z (fun j => if j = i then some p else O j) := by
  have al : ∀ a, H a ≠ none → H' a ≠ none := fun a h => by
    cases e : H a with
    | none => exact absurd e h
    | some o => rw [sm a o e]; exact Option.some_ne_none _
  have nn : ∀ a, NN M z O a → a ≠ p := fun a h e => w.alloc a h (by rw [e]; exact hp)
  have g : Go M H z O H' z (fun j => if j = i then some p else O j) := ⟨fun a o h _ => sm a o h, fun a o _ h => sm a o h, fun a h => by
    rcases h.on with q | q
    · exact .inl q
    · exact .inr (by rw [q]; exact hp), fun a h => .inl h, al⟩
  refine ⟨⟨by rw [List.length_set, List.length_set]; exact w.len, fun a h => al a (w.al a h), w.pot.to g.ext fun a o _ q => sm a o q, w.pm, fun j a h => ?_, fun j s' h => ?_, fun j h => ?_⟩, g⟩
  · replace h : (if j = i then some p else O j) = some a := h
    by_cases hj : j = i
    · subst hj
      rw [if_pos rfl] at h
      cases h
      refine ⟨fun q => nn p (.inl q) rfl, fun q => nn p (.inr (.inl q)) rfl, hp', fun l e => ?_⟩
      replace e : (if l = j then some p else O l) = some p := e
      by_cases hl : l = j
      · exact hl
      · rw [if_neg hl] at e; exact absurd rfl (nn p (.inr (.inr ⟨l, e⟩)))
    · rw [if_neg hj] at h
      obtain ⟨h1, h2, h3, h4⟩ := w.ow j a h
      refine ⟨h1, h2, al a h3, fun l e => ?_⟩
      replace e : (if l = i then some p else O l) = some a := e
      by_cases hl : l = i
      · rw [if_pos hl] at e; cases e; exact absurd rfl (nn p (.inr (.inr ⟨j, h⟩)))
      · rw [if_neg hl] at e; exact h4 l e
  · by_cases hj : j = i
    · subst hj
      rw [List.getElem?_set_self hi] at h
      cases h
      rw [List.getElem?_set_self (by rw [w.len]; exact hi)]
      show SlotOk _ _ _ _ _ (if j = j then some p else O j)
      rw [if_pos rfl]
      exact hs
    · rw [List.getElem?_set_ne (Ne.symm hj)] at h ⊢
      show SlotOk _ _ _ _ _ (if j = i then some p else O j)
      rw [if_neg hj]
      exact (w.sl j s' h).mono g.ext fun a o _ q => sm a o q
  · by_cases hj : j = i
    · subst hj
      rw [List.getElem?_set_self hi] at h; cases h
    · show (if j = i then some p else O j) = none
      rw [if_neg hj]
      refine w.out j ?_
      rw [List.getElem?_set_ne (Ne.symm hj)] at h; exact h
def dOwn (i : Nat) (t : DX (List D)) : DTS := fun R ρ z => t ρ z (fun ds ρ' z' => i < ρ'.length ∧ R.nx (ρ'.set i (.own ds)) z') R.ex
theorem own_step {K : PySem.W.Frag} {M : Addr → Prop} {H1 H' : Hp} {σ : L2.St} {ρ : List Sl} {z : Z} {O : Nat → Option Addr} (w : Wd K M H1 σ ρ z O) (i : Nat) (hi : i < ρ.length) {p : Addr} {ds : List D} {vs : List V} (hp : H1 p = none) (sm : Same H1 H')
    (e : H' p = some (.lst vs)) (r : Reps K (NN M z O) H1 ds vs) : Wd K M H' (σ.set i (some (.ref p))) (ρ.set i (.own ds)) z (fun j => if j = i then some p else O j) ∧ Go M H1 z O H' z (fun j => if j = i then some p else O j) := by
  refine w.seto i hi hp sm (by rw [e]; exact Option.some_ne_none _) ⟨p, vs, rfl, rfl, e, Reps.mono ⟨fun a o q _ => sm a o q, fun a q => ?_⟩ _ _ r⟩
  rcases q.on with q | q
  · exact .inl q
  · exact .inr (by rw [q]; exact hp)
theorem ds_own {i : Nat} {x : Str} {t : DX (List D)} {pos' : Pos} (hN : X.N.Nodup) (hi : X.N[i]? = some x) (hx : Loc X.env.scope x) (he : DN X W e t) (hs : swapsWith e (some (.Name x pos')) pos.line X.env = pure false := by rfl)
    (hf : X.fn x = true ∨ X.env.scope.names.lookup x = some .local := by first | exact .inl rfl | exact .inr rfl | assumption) : DS X W (.Assign [.Name x pos'] e pos) (dOwn i t) := ps_to (ps_set hN hi hx he hs hf) fun D σ H ⟨M, ρ, z, O, R, w, h, k⟩ =>
  ⟨M, ρ, z, O, _, R.ex, w, h, k.ex, fun ds ρ' z' p vs H1 H' O' ⟨hl, hd⟩ g w' sm hp e r => by
    obtain ⟨w2, g2⟩ := own_step w' i hl hp sm e r
    exact k.nx _ z' _ H' _ hd (g.toGo.trans g2) w2⟩
/-- an own list written -/
theorem Wd.wrote {K : PySem.W.Frag} {M : Addr → Prop} {H : Hp} {σ : L2.St} {ρ : List Sl} {z : Z} {O : Nat → Option Addr} (w : Wd K M H σ ρ z O) {i : Nat} {a : Addr} (hO : O i = some a) {o : HO} {s : Sl} (hi : i < ρ.length)
    (hs : SlotOk K (NN M z O) (upd H a o) (σ[i]?.join) s (some a)) : Wd K M (upd H a o) σ (ρ.set i s) z O ∧ Go M H z O (upd H a o) z O := by
  obtain ⟨a1, a2, a3, a4⟩ := w.ow i a hO
  have al : ∀ b, H b ≠ none → upd H a o b ≠ none := fun b h => by
    by_cases q : b = a
    · rw [q, upd_same]; exact Option.some_ne_none _
    · rw [upd_ne q]; exact h
  have g : Go M H z O (upd H a o) z O := ⟨fun b u h n => by rw [upd_ne (fun q => n (.inr (.inr ⟨i, by rw [q]; exact hO⟩)))]; exact h, fun b u m h => by rw [upd_ne (fun q => a1 (by rw [← q]; exact m))]; exact h, fun b h => .inl h, fun b h => .inl h, al⟩
  refine ⟨⟨by rw [List.length_set]; exact w.len, fun b h => al b (w.al b h), w.pot.to g.ext fun b u h q => by rw [upd_ne (fun e => a2 (by rw [← e]; exact h))]; exact q, w.pm, fun j b h => ?_, fun j s' h => ?_, fun j h => ?_⟩, g⟩
  · obtain ⟨h1, h2, h3, h4⟩ := w.ow j b h
    exact ⟨h1, h2, al b h3, h4⟩
  · by_cases hj : j = i
    · subst hj
      rw [List.getElem?_set_self hi] at h
      cases h
      rw [hO]
      exact hs
    · rw [List.getElem?_set_ne (Ne.symm hj)] at h
      refine (w.sl j s' h).mono g.ext fun b u q e => ?_
      rw [upd_ne (fun z => hj (a4 j (by rw [← z]; exact q)))]; exact e
  · refine w.out j ?_
    rw [List.getElem?_eq_none_iff, List.length_set] at h
    exact List.getElem?_eq_none_iff.mpr h
theorem lt_of_get {α : Type} {l : List α} {i : Nat} {x : α} (h : l[i]? = some x) : i < l.length := (List.getElem?_eq_some_iff.mp h).1
def dAppend (i : Nat) (t : DX D) : DTS := fun R ρ z => ∃ ds0, ρ[i]? = some (.own ds0) ∧ t ρ z (fun d ρ' z' => match ρ'[i]? with | some (.own ds) => ds.length < sizeLine ∧ R.nx (ρ'.set i (.own (ds ++ [d]))) z' | _ => False) R.ex
theorem ds_append {i : Nat} {x : Str} {t : DX D} {apos cpos : Pos} {xpos : Pos} (hN : X.N[i]? = some x) (he : DE X W e t)
    (hv : Vis X.env.scope x := by first | exact Or.inl rfl | exact Or.inr (Or.inl rfl) | exact Or.inr (Or.inr rfl)) (hd : (x == ("__debug__" : Str)) = false := by decide)
    (hcd : (x == ("__classdict__" : Str)) = false := by decide)
    (hbase : attributeBase (.Name x xpos) "append" X.env (eval (.Name x xpos) X.env) = eval (.Name x xpos) X.env := by rfl)
    (hfew : ((backTo cpos (starEach [e] X.env)).all (fun x => !x.1) && (backToKw cpos (keywordEach [] X.env)).all (fun x => x.1.isSome)
      && decide (([e]).length + ([] : List Keyword).length + (if ([] : List Keyword).isEmpty then 0 else 1) < 30)) = true := by rfl)
    (hline : (apos.endLine == cpos.line) = true := by rfl) (hs : starEach [e] X.env = (false, eval e X.env) :: starEach [] X.env := by rfl)
    (hsw : swapsWith (.Call (.Attribute (.Name x xpos) "append" apos) [e] [] cpos) none pos.line X.env = pure false := by rfl) :
    DS X W (.Expr (.Call (.Attribute (.Name x xpos) "append" apos) [e] [] cpos) pos) (dAppend i t) := by
  refine ps_to (ps_expr (pe_bm PySem.F.plainAttrs_list PySem.F.slot_list_append PySem.F.type_list_append mt_append (pe_var hN hv hd hcd) (pa_cons he pa_nil hs) hbase hfew hline hs (by rfl)) hsw) fun D σ H ⟨M, ρ, z, O, R, w, ⟨ds0, h0, h⟩, k⟩ => ?_
  obtain ⟨a0, vs0, q1, q2, q3, q4⟩ := w.sl i _ h0
  refine ⟨_, join_some q2, .inl ⟨rfl, _, SqL.of q3⟩, M, ρ, z, O, _, R.ex, w, h, k.ex, fun d ρ' z' v H' O' hd g w' r => ?_⟩
  have hd' : ∃ ds, ρ'[i]? = some (.own ds) ∧ ds.length < sizeLine ∧ R.nx (ρ'.set i (.own (ds ++ [d]))) z' := by
    split at hd
    · exact ⟨_, ‹_›, hd⟩
    · exact hd.elim
  obtain ⟨ds, e1, hl, hd'⟩ := hd'
  obtain ⟨a, vs, p1, p2, p3, p4⟩ := w'.sl i _ e1
  have ea : a = a0 := by rw [q2] at p2; cases p2; rfl
  subst ea
  refine ⟨a, vs, v, rfl, rfl, p3, by rw [← p4.length]; exact hl, ?_⟩
  have na : ∀ (b : Addr) (o : HO), H' b = some o → ¬ NN M z' O' b → (upd H' a (.lst (vs ++ [v]))) b = some o := fun b o e n => by rw [upd_ne (fun q => n (.inr (.inr ⟨i, by rw [q]; exact p1⟩)))]; exact e
  obtain ⟨w2, g2⟩ := w'.wrote p1 (o := .lst (vs ++ [v])) (s := .own (ds ++ [d])) (lt_of_get e1) ⟨a, vs ++ [v], rfl, p2, upd_same, Reps.mono ⟨na, fun b h => .inl h⟩ _ _ (p4.append (.cons r .nil))⟩
  exact k.nx _ z' σ _ O' hd' (g.toGo.trans g2) w2
/-- x op= e -/
def dAug (i : Nat) (f : Op2) (t : DX D) : DTS := fun R ρ z => ∃ x, ρ[i]? = some (.val x) ∧ t ρ z (fun y ρ' z' => f x y fun r => R.nx (ρ'.set i (.val r)) z') R.ex
def iaddD : Op2
  | .int i, .int j, k => k (.int (i + j))
  | .str i, .str j, k => i.length + j.length ≤ sizeLine ∧ k (.str (i ++ j))
  | _, _, _ => False
def imulD : Op2
  | .int i, .int j, k => CMulW i j ∧ k (.int (i * j))
  | _, _, _ => False
def ifdivD : Op2
  | .int i, .int j, k => CDivW i j ∧ k (.int (i / j))
  | _, _, _ => False
/-- self.f = e, where self is being made -/
def dFldS (K : PySem.W.Frag) (i : Nat) (f : Str) (t : DX D) : DTS := fun R ρ z => t ρ z (fun d ρ' z' => match ρ'[i]? with
  | some (.obj x C ns ds) => AttrOk K C f ∧ ns.length < 1000 ∧ f ∉ ns ∧ R.nx (ρ'.set i (.obj x C (ns ++ [f]) (ds ++ [d]))) z'
  | _ => False) R.ex
theorem putF_new {f : Str} {v : V} : ∀ {ns : List Str} {vs : List V}, ns.length = vs.length → f ∉ ns → putF f v (ns.zip vs) = (ns ++ [f]).zip (vs ++ [v])
  | [], [], _, _ => rfl
  | n :: ns, w :: vs, hl, hn => by
    rw [List.zip_cons_cons]
    show (if n = f then _ else (n, w) :: putF f v (ns.zip vs)) = _
    rw [if_neg (fun e => hn (by rw [e]; exact List.mem_cons_self)), putF_new (by simpa using hl) (fun h => hn (List.mem_cons_of_mem _ h))]
    rfl
  | [], _ :: _, hl, _ => by simp at hl
  | _ :: _, [], hl, _ => by simp at hl
theorem ds_fldS {i : Nat} {x f : Str} {t : DX D} {xpos pos' : Pos} (hN : X.N[i]? = some x) (he : DE X W e t)
    (hsw : swapsWith e (some (.Attribute (.Name x xpos) f pos')) pos.line X.env = pure false)
    (hv : Vis X.env.scope x := by first | exact Or.inl rfl | exact Or.inr (Or.inl rfl) | exact Or.inr (Or.inr rfl)) (hd : (x == ("__debug__" : Str)) = false := by decide)
    (hcd : (x == ("__classdict__" : Str)) = false := by decide) : DS X W (.Assign [.Attribute (.Name x xpos) f pos'] e pos) (dFldS X.K i f t) := by
  refine ps_to (ps_fld (pe_var hN hv hd hcd) he hsw) fun D σ H ⟨M, ρ, z, O, R, w, h, k⟩ => ?_
  refine ⟨M, ρ, z, O, _, R.ex, w, h, k.ex, fun d ρ' z' v H' O' hd g w' r => ?_⟩
  have hd' : ∃ x' C ns ds, ρ'[i]? = some (.obj x' C ns ds) ∧ AttrOk X.K C f ∧ ns.length < 1000 ∧ f ∉ ns ∧ R.nx (ρ'.set i (.obj x' C (ns ++ [f]) (ds ++ [d]))) z' := by
    split at hd
    · exact ⟨_, _, _, _, ‹_›, hd⟩
    · exact hd.elim
  obtain ⟨x', C, ns, ds, e1, ⟨ac, an⟩, hl, hn, hd'⟩ := hd'
  obtain ⟨a, dx, vs, p1, p0, p2, p3, p4, p5⟩ := w'.sl i _ e1
  have lv : ns.length = vs.length := by rw [p4, p5.length]
  refine ⟨_, join_some p2, a, C, dx, _, rfl, p3, ac, an, by rw [List.length_zip]; omega, ?_⟩
  have na : ∀ (b : Addr) (o : HO), H' b = some o → ¬ NN M z' O' b → (upd H' a (.ins C dx (putF f v (ns.zip vs)))) b = some o := fun b o e n => by rw [upd_ne (fun q => n (.inr (.inr ⟨i, by rw [q]; exact p1⟩)))]; exact e
  obtain ⟨w2, g2⟩ := w'.wrote p1 (o := .ins C dx (putF f v (ns.zip vs))) (s := .obj x' C (ns ++ [f]) (ds ++ [d])) (lt_of_get e1)
    ⟨a, dx, vs ++ [v], rfl, p0, p2, by rw [putF_new lv hn, upd_same], by rw [List.length_append, List.length_append, p4]; rfl, Reps.mono ⟨na, fun b h => .inl h⟩ _ _ (p5.append (.cons r .nil))⟩
  exact k.nx _ z' σ _ O' hd' (g.toGo.trans g2) w2
/-- a, b = x, y -/
def dPar (i j : Nat) (t : DX (List D)) : DTS := fun R ρ z => t ρ z (fun ds ρ' z' => match ds with | [x, y] => R.nx ((ρ'.set i (.val x)).set j (.val y)) z' | _ => False) R.ex
theorem ds_par {i j : Nat} {x y : Str} {t : DX (List D)} {px py pt : Pos} {kt k2 pt2} (hc : X.calm = true) (hN : X.N.Nodup) (hi : X.N[i]? = some x) (hj : X.N[j]? = some y) (hij : i ≠ j)
    (hx : X.env.scope.names.lookup x = some .local) (hy : X.env.scope.names.lookup y = some .local) (ha : DAs X W [a, b] t)
    (hw : swappedStores [.Tuple [.Name x px, .Name y py] kt pt] (.Tuple [a, b] k2 pt2) X.env = pure (some [x, y]))
    (hs : swapsWithSole [.Tuple [.Name x px, .Name y py] kt pt] (.Tuple [a, b] k2 pt2) pos.line X.env = pure false := by rfl) :
    DS X W (.Assign [.Tuple [.Name x px, .Name y py] kt pt] (.Tuple [a, b] k2 pt2) pos) (dPar i j t) := ps_to (ps_par hc hN hi hj hij hx hy ha hw hs) fun D σ H ⟨M, ρ, z, O, R, w, h, k⟩ =>
  ⟨M, ρ, z, O, _, R.ex, w, h, k.ex, fun ds ρ' z' vs H' O' hd g w' r => by
    match ds, hd with
    | [d1, d2], hd =>
      replace r : Reps _ _ _ _ _ := r
      rw [Reps] at r
      obtain ⟨v, vr, rfl, r1, r⟩ := r
      rw [Reps] at r
      obtain ⟨u, vr, rfl, r2, r⟩ := r
      rw [Reps] at r
      subst r
      refine ⟨v, u, rfl, k.nx _ z' _ H' _ hd (g.trans (GoE.off.trans .off)).toGo ((w'.set i r1).set j (Rep.mono GoE.off.ext _ _ r2))⟩⟩
def dPar3 (i j l : Nat) (t : DX (List D)) : DTS := fun R ρ z => t ρ z (fun ds ρ' z' => match ds with | [x, y, u] => R.nx (((ρ'.set i (.val x)).set j (.val y)).set l (.val u)) z' | _ => False) R.ex
theorem ds_par3 {i j l : Nat} {x y zz : Str} {c : Expr} {t : DX (List D)} {px py pz pt : Pos} {kt k2 pt2} (hc : X.calm = true) (hN : X.N.Nodup) (hi : X.N[i]? = some x) (hj : X.N[j]? = some y) (hl : X.N[l]? = some zz) (hij : i ≠ j) (hil : i ≠ l) (hjl : j ≠ l)
    (hx : X.env.scope.names.lookup x = some .local) (hy : X.env.scope.names.lookup y = some .local) (hz : X.env.scope.names.lookup zz = some .local) (ha : DAs X W [a, b, c] t)
    (hw : swappedStores [.Tuple [.Name x px, .Name y py, .Name zz pz] kt pt] (.Tuple [a, b, c] k2 pt2) X.env = pure (some [x, y, zz]))
    (hs : swapsWithSole [.Tuple [.Name x px, .Name y py, .Name zz pz] kt pt] (.Tuple [a, b, c] k2 pt2) pos.line X.env = pure false := by rfl) :
    DS X W (.Assign [.Tuple [.Name x px, .Name y py, .Name zz pz] kt pt] (.Tuple [a, b, c] k2 pt2) pos) (dPar3 i j l t) := ps_to (ps_par3 hc hN hi hj hl hij hil hjl hx hy hz ha hw hs) fun D σ H ⟨M, ρ, z, O, R, w, h, k⟩ =>
  ⟨M, ρ, z, O, _, R.ex, w, h, k.ex, fun ds ρ' z' vs H' O' hd g w' r => by
    match ds, hd with
    | [d1, d2, d3], hd =>
      replace r : Reps _ _ _ _ _ := r
      rw [Reps] at r
      obtain ⟨v, vr, rfl, r1, r⟩ := r
      rw [Reps] at r
      obtain ⟨u, vr, rfl, r2, r⟩ := r
      rw [Reps] at r
      obtain ⟨q, vr, rfl, r3, r⟩ := r
      rw [Reps] at r
      subst r
      refine ⟨v, u, q, rfl, k.nx _ z' _ H' _ hd (g.trans (GoE.off.trans (GoE.off.trans .off))).toGo (((w'.set i r1).set j (Rep.mono GoE.off.ext _ _ r2)).set l (Rep.mono GoE.off.ext _ _ (Rep.mono GoE.off.ext _ _ r3)))⟩⟩
end
end Lay

set_option Elab.async false
set_option linter.all false
set_option maxRecDepth 100000
set_option maxHeartbeats 2000000
namespace Lay
open PySem PySem.Spec PyProof.Rows L2
/-! ### what is walked -/
def WalkD (K : PySem.W.Frag) (J : It) (ds : List D) (N : Addr → Prop) (H : Hp) : Prop := ∀ N' H', Ext N H N' H' → (∀ a, N' a → H' a ≠ none) →
  (∀ i, i < ds.length → J.go i H') ∧ J.stop ds.length H' ∧ ∀ i x H'' d, ds[i]? = some d → J.yld i H' x H'' → Same H' H'' ∧ Rep K N' H'' d x
def UI (K : PySem.W.Frag) (W : WX) (t : DX (List D)) : TI := fun σ H Rq => ∃ M ρ z O R RX, Wd K M H σ ρ z O ∧ t ρ z R RX ∧ XOk K M W H z O RX ∧
  ∀ ds ρ' z' H' O' J, R ds ρ' z' → GoE M H z O H' z' O' → Wd K M H' σ ρ' z' O' → WalkD K J ds (NN M z' O') H' → Rq J H'
def DI (X : Cx) (W : WX) (tg e : Expr) (t : DX (List D)) : Prop := PI X tg e (UI X.K W t)
section
variable {X : Cx} {W : WX} {e a b tg : Expr} {es : List Expr} {pos p : Pos} {K : PySem.W.Frag}
theorem pi_to {t t' : TI} (h : PI X tg e t) (i : ∀ σ H Q, t' σ H Q → t σ H Q) : PI X tg e t' := ⟨fun pins s σ H Q I q => h.run pins s σ H Q I (i σ H Q q)⟩
theorem walkd_lst {a : Addr} {ds : List D} {vs : List V} {N : Addr → Prop} {H : Hp} (h : LstAt K N H a vs) (r : Reps K N H ds vs) : WalkD K (Itl K a) ds N H := fun N' H' e al => by
  have h' : LstAt K N' H' a vs := by
    rcases h with ⟨n, h⟩ | h
    · exact .inl (e.rd n h)
    · exact .inr h
  have r' := Reps.mono e _ _ r
  refine ⟨fun i hi => ?_, ⟨vs, h'.sq, by rw [r'.length]; exact Nat.le_refl _⟩, fun i x H'' d hd y => ?_⟩
  · rw [r'.length] at hi
    exact ⟨vs, vs[i], h'.sq, List.getElem?_eq_getElem hi⟩
  · obtain ⟨rfl, y⟩ := y
    obtain ⟨v, e1, e2⟩ := r'.get hd
    have := y vs h'.sq
    rw [e1] at this
    cases this
    exact ⟨same0, e2⟩
theorem walkd_tup {a : Addr} {ds : List D} {vs : List V} {N : Addr → Prop} {H : Hp} (h : TupAt K N H a vs) (r : Reps K N H ds vs) : WalkD K (Itt K a) ds N H := fun N' H' e al => by
  have h' : TupAt K N' H' a vs := by
    rcases h with ⟨n, h⟩ | h
    · exact .inl (e.rd n h)
    · exact .inr h
  have r' := Reps.mono e _ _ r
  refine ⟨fun i hi => ?_, ⟨vs, h'.sq, by rw [r'.length]; exact Nat.le_refl _⟩, fun i x H'' d hd y => ?_⟩
  · rw [r'.length] at hi
    exact ⟨vs, vs[i], h'.sq, List.getElem?_eq_getElem hi⟩
  · obtain ⟨rfl, y⟩ := y
    obtain ⟨v, e1, e2⟩ := r'.get hd
    have := y vs h'.sq
    rw [e1] at this
    cases this
    exact ⟨same0, e2⟩
theorem walkd_enum {a : Addr} {ds : List D} {vs : List V} {N : Addr → Prop} {H : Hp} (h : LstAt K N H a vs) (r : Reps K N H ds vs) : WalkD K (Ite K a) (ds.mapIdx fun i d => .tup [.int i, d]) N H := fun N' H' e al => by
  have h' : LstAt K N' H' a vs := by
    rcases h with ⟨n, h⟩ | h
    · exact .inl (e.rd n h)
    · exact .inr h
  have r' := Reps.mono e _ _ r
  rw [List.length_mapIdx]
  refine ⟨fun i hi => ?_, ⟨vs, h'.sq, by rw [r'.length]; exact Nat.le_refl _⟩, fun i x H'' d hd y => ?_⟩
  · rw [r'.length] at hi
    exact ⟨vs, vs[i], h'.sq, List.getElem?_eq_getElem hi⟩
  · obtain ⟨T, v, rfl, hT, rfl, y⟩ := y
    rw [List.getElem?_mapIdx] at hd
    obtain ⟨d', e0, rfl⟩ := Option.map_eq_some_iff.mp hd
    obtain ⟨u, e1, e2⟩ := r'.get e0
    have := y vs h'.sq
    rw [e1] at this
    cases this
    exact ⟨same_new hT, Rep.tupNew al hT (same_new hT) upd_same (.cons .i (.cons e2 .nil))⟩
theorem zip_get {α β : Type} {xs : List α} {ys : List β} {i : Nat} {p : α × β} (h : (xs.zip ys)[i]? = some p) : xs[i]? = some p.1 ∧ ys[i]? = some p.2 := by
  have := List.getElem?_zip_eq_some.mp h
  exact this
def zipD (xs ys : List D) : List D := (xs.zip ys).map fun p => .tup [p.1, p.2]
theorem lstAt_of {N : Addr → Prop} {H : Hp} {ds : List D} {v : V} (r : Rep K N H (.lst ds) v) : ∃ a vs, v = .ref a ∧ LstAt K N H a vs ∧ Reps K N H ds vs := by
  rw [Rep] at r
  obtain ⟨a, vs, h1, h2, h3, h4⟩ := r
  exact ⟨a, vs, h1, .inl ⟨h2, .inl h3⟩, h4⟩
theorem rolAt_of {N : Addr → Prop} {H : Hp} {ds : List D} {v : V} (r : Rep K N H (.rol ds) v) : ∃ a vs, v = .ref a ∧ LstAt K N H a vs ∧ Reps K N H ds vs := by rwa [Rep] at r
theorem tupAt_of {N : Addr → Prop} {H : Hp} {ds : List D} {v : V} (r : Rep K N H (.tup ds) v) : ∃ a vs, v = .ref a ∧ TupAt K N H a vs ∧ Reps K N H ds vs := by rwa [Rep] at r
/-- a list, a tuple, a text, whatever it is -/
def iAny (K : PySem.W.Frag) (tl : TE) : TI := fun σ H R => tl σ H fun x H1 => (∃ a, x = .ref a ∧ (∃ xs, SqL K H1 a xs) ∧ R (Itl K a) H1) ∨ (∃ a, x = .ref a ∧ (∃ xs, SqT K H1 a xs) ∧ R (Itt K a) H1) ∨ ∃ z, x = .str z ∧ R (Its z) H1
theorem pi_any {l : Expr} {tl : TE} (hl : PE X l tl) : PI X tg l (iAny X.K tl) := by
  refine ⟨fun pins s σ H R I h => ?_⟩
  refine thn (hl.run pins s σ H _ I h) fun v s1 ⟨x, H1, I1, r1, q1⟩ => ?_
  rcases q1 with ⟨a, rfl, ⟨xs, hq⟩, q⟩ | ⟨a, rfl, ⟨xs, hq⟩, q⟩ | ⟨y, rfl, q⟩
  · cases r1
    obtain ⟨its, rv, p, hz⟩ := I1.list hq
    refine wpAny_pyIter_list p.isList ?_
    refine ⟨s1.heap.objs.size, [s1.heap.objs.size], _, _, H1, rfl, I1.kept (t' := s1.toks) fun b o e => Heap.get?_push_of_some _ e, turn_list a _, ⟨_, Heap.get?_push_size _ rfl, rfl, rfl⟩, fun b hb => ?_, q⟩
    have e : b = s1.heap.objs.size := by simpa using hb
    subst e
    exact I1.fpOk (Nat.le_refl _) (I1.hok.fresh (Nat.le_refl _))
  · cases r1
    obtain ⟨its, rv, p, hz⟩ := I1.tuple hq
    refine wpAny_pyIter_tuple (show s1.heap.IsTuple a its.toArray from p) ?_
    refine ⟨s1.heap.objs.size, [s1.heap.objs.size], _, _, H1, rfl, I1.kept (t' := s1.toks) fun b o e => Heap.get?_push_of_some _ e, turn_tuple a _, ⟨_, Heap.get?_push_size _ rfl, rfl, rfl⟩, fun b hb => ?_, q⟩
    have e : b = s1.heap.objs.size := by simpa using hb
    subst e
    exact I1.fpOk (Nat.le_refl _) (I1.hok.fresh (Nat.le_refl _))
  · obtain ⟨t, rfl⟩ := r1
    cases ha : y.cps.all (· < 128)
    · exact wpAny_pyIter_wide ha (pi_one (tk := s1.toks) I1 _ (turn_str _ y t "str_iterator" (.inr rfl)) ⟨_, Heap.get?_push_size _ rfl, rfl, rfl⟩ q)
    · exact wpAny_pyIter_ascii ha (pi_one (tk := s1.toks) I1 _ (turn_str _ y t "str_ascii_iterator" (.inl rfl)) ⟨_, Heap.get?_push_size _ rfl, rfl, rfl⟩ q)
def signsD (z : Str) : List D := z.cps.toList.map fun c => .str ⟨#[c]⟩
def iterD : D → (List D → Prop) → Prop
  | .lst ds, k => k ds
  | .rol ds, k => k ds
  | .tup ds, k => k ds
  | .str z, k => k (signsD z)
  | _, _ => False
def dIt (t : DX D) : DX (List D) := fun ρ z R RX => t ρ z (fun d ρ' z' => iterD d fun ds => R ds ρ' z') RX
theorem di_any {t : DX D} (he : DE X W e t) : DI X W tg e (dIt t) := pi_to (pi_any he) fun σ H Q ⟨M, ρ, z, O, R, RX, w, h, x, k⟩ =>
  ⟨M, ρ, z, O, _, RX, w, h, x, fun d ρ' z' v H' O' hd g w' r => by
    cases d with
    | lst ds =>
      obtain ⟨a, vs, rfl, h1, h2⟩ := lstAt_of r
      exact .inl ⟨a, rfl, ⟨vs, h1.sq⟩, k ds ρ' z' H' O' _ hd g w' (walkd_lst h1 h2)⟩
    | rol ds =>
      obtain ⟨a, vs, rfl, h1, h2⟩ := rolAt_of r
      exact .inl ⟨a, rfl, ⟨vs, h1.sq⟩, k ds ρ' z' H' O' _ hd g w' (walkd_lst h1 h2)⟩
    | tup ds =>
      obtain ⟨a, vs, rfl, h1, h2⟩ := tupAt_of r
      exact .inr (.inl ⟨a, rfl, ⟨vs, h1.sq⟩, k ds ρ' z' H' O' _ hd g w' (walkd_tup h1 h2)⟩)
    | str s =>
      obtain rfl := RepP.str (z := z') (.inl r)
      refine .inr (.inr ⟨s, rfl, k _ ρ' z' H' O' _ hd g w' fun N' H2 e al => ?_⟩)
      have hl : (signsD s).length = s.cps.size := by unfold signsD; rw [List.length_map, Array.length_toList]
      rw [hl]
      refine ⟨fun i hi => hi, Nat.le_refl _, fun i x H3 d hd y => ?_⟩
      obtain ⟨rfl, c, e1, rfl⟩ := y
      unfold signsD at hd
      rw [List.getElem?_map, Array.getElem?_toList, e1] at hd
      cases hd
      exact ⟨same0, .s⟩
    | _ => exact hd.elim⟩
def enumD : List D → (List D → Prop) → Prop
  | [.lst ds], k => k (ds.mapIdx fun i d => .tup [.int i, d])
  | [.rol ds], k => k (ds.mapIdx fun i d => .tup [.int i, d])
  | _, _ => False
def dItA (f : List D → (List D → Prop) → Prop) (t : DX (List D)) : DX (List D) := fun ρ z R RX => t ρ z (fun ds ρ' z' => f ds fun es => R es ρ' z') RX
theorem reps1 {N : Addr → Prop} {H : Hp} {d : D} {vs : List V} (r : Reps K N H [d] vs) : ∃ v, vs = [v] ∧ Rep K N H d v := by
  rw [Reps] at r
  obtain ⟨v, q, rfl, r1, r⟩ := r
  rw [Reps] at r
  subst r
  exact ⟨v, rfl, r1⟩
theorem di_enum {tpos : Pos} {elts : List Expr} {kk : Nat} {t : DX (List D)} (hg : Gl X "enumerate") (hm : X.mg "enumerate" = none) (ha : DAs X W [e] t) (hs : starEach [e] X.env = [(false, eval e X.env)] := by rfl) :
    DI X W (.Tuple elts kk tpos) (.Call (.Name "enumerate" p) [e] [] pos) (dItA enumD t) := pi_to (pi_enum hg hm ha hs) fun σ H Q ⟨M, ρ, z, O, R, RX, w, h, x, k⟩ =>
  ⟨M, ρ, z, O, _, RX, w, h, x, fun ds ρ' z' vs H' O' hd g w' r => by
    unfold enumD at hd
    split at hd
    · obtain ⟨v, rfl, r1⟩ := reps1 r
      obtain ⟨a, ws, rfl, h1, h2⟩ := lstAt_of r1
      exact ⟨a, ws, rfl, h1.sq, k _ ρ' z' H' O' _ hd g w' (walkd_enum h1 h2)⟩
    · obtain ⟨v, rfl, r1⟩ := reps1 r
      obtain ⟨a, ws, rfl, h1, h2⟩ := rolAt_of r1
      exact ⟨a, ws, rfl, h1.sq, k _ ρ' z' H' O' _ hd g w' (walkd_enum h1 h2)⟩
    · exact hd.elim⟩
def zipF : List D → (List D → Prop) → Prop
  | [.lst xs, .lst ys], k => k (zipD xs ys)
  | [.tup xs, .tup ys], k => k (zipD xs ys)
  | _, _ => False
def rngD (lo : Int) (n : Nat) : List D := (List.range n).map fun i => .int (lo + (i : Nat))
theorem walkd_rng {lo : Int} {n : Nat} {N : Addr → Prop} {H : Hp} : WalkD K (Itr lo n) (rngD lo n) N H := fun N' H' e al => by
  have hl : (rngD lo n).length = n := by unfold rngD; rw [List.length_map, List.length_range]
  rw [hl]
  refine ⟨fun i hi => hi, Nat.le_refl _, fun i x H'' d hd y => ?_⟩
  obtain ⟨rfl, rfl⟩ := y
  unfold rngD at hd
  rw [List.getElem?_map] at hd
  obtain ⟨j, e0, rfl⟩ := Option.map_eq_some_iff.mp hd
  rw [List.getElem?_range (by have := lt_of_get e0; rwa [List.length_range] at this)] at e0
  cases e0
  exact ⟨same0, .i⟩
def rng1 : List D → (List D → Prop) → Prop
  | [.int j], k => -(2 ^ 62) ≤ j ∧ j < 2 ^ 62 ∧ k (rngD 0 j.toNat)
  | _, _ => False
def rng2 : List D → (List D → Prop) → Prop
  | [.int i, .int j], k => (-(2 ^ 62) ≤ i ∧ i < 2 ^ 62 ∧ -(2 ^ 62) ≤ j ∧ j < 2 ^ 62) ∧ k (rngD i (j - i).toNat)
  | _, _ => False
theorem di_range1 {t : DX (List D)} (hg : Gl X "range") (hm : X.mg "range" = none) (ha : DA X W [a] t) (hs : starEach [a] X.env = [(false, eval a X.env)] := by rfl) : DI X W tg (.Call (.Name "range" p) [a] [] pos) (dItA rng1 t) :=
  pi_to (pi_range1 hg hm ha hs) fun σ H Q ⟨M, ρ, z, O, R, RX, w, h, x, k⟩ => ⟨M, ρ, z, O, _, RX, w, h, x, fun ds ρ' z' vs H' O' hd g w' r => by
    unfold rng1 at hd
    split at hd
    · obtain ⟨v, rfl, r1⟩ := r.one
      obtain rfl := r1.int
      exact ⟨_, rfl, hd.1, hd.2.1, k _ ρ' z' H' O' _ hd.2.2 g w' walkd_rng⟩
    · exact hd.elim⟩
def rngC (lo c : Int) (n : Nat) : List D := (List.range n).map fun i => .int (lo + (i : Nat) * c)
/-- a range that goes down -/
def rng3 : List D → (List D → Prop) → Prop
  | [.int i, .int j, .int c], k => c = -1 ∧ (-(2 ^ 62) ≤ i ∧ i < 2 ^ 62 ∧ -(2 ^ 62) ≤ j ∧ j < 2 ^ 62) ∧ k (rngC i (-1) (i - j).toNat)
  | _, _ => False
/-! ### for, while -/
def forD (g : DTG) (tb : DTS) : List D → DEnds → List Sl → Z → Prop
  | [], R, ρ, z => R.nx ρ z
  | d :: ds, R, ρ, z => ∃ N : List Sl → Z → Prop, (∀ ρ z, N ρ z → forD g tb ds R ρ z) ∧ g d ρ z (fun ρ1 z1 => tb { R with nx := N, ct := N, bk := R.nx } ρ1 z1)
def dFor (t : DX (List D)) (g : DTG) (tb : DTS) : DTS := fun R ρ z => t ρ z (fun ds ρ' z' => forD g tb ds R ρ' z') R.ex
theorem ds_for {iter : Expr} {ss : List Nat} {body : List Stmt} {t : DX (List D)} {g : DTG} {tb : DTS} (hp : PassesOwn (model X.prog X.w) X.A X.env X.xe) (hc : X.calm = true) (hi : DI X W tg iter t) (hg : DG X tg ss g) (hb : DSs X W body tb)
    (hs : ∀ x, foldedSetIterable iter X.env x = pure x := by intro _; rfl) : DS X W (.For tg iter body [] pos) (dFor t g tb) := ps_to (ps_for hp hc hi hg hb hs) fun D σ H ⟨M, ρ, z, O, R, w, h, k⟩ => by
  refine ⟨M, ρ, z, O, _, R.ex, w, h, k.ex, fun ds ρ1 z1 H1 O1 J hd g1 w1 wk => ?_⟩
  refine ⟨fun i m σ2 H2 => m = ds.length - i ∧ i ≤ ds.length ∧ ∃ ρ2 z2 O2, Wd X.K M H2 σ2 ρ2 z2 O2 ∧ Go M H1 z1 O1 H2 z2 O2 ∧ forD g tb (ds.drop i) R ρ2 z2, ⟨_, rfl, Nat.zero_le _, ρ1, z1, O1, w1, .refl, by rw [List.drop_zero]; exact hd⟩, ?_⟩
  rintro i m σ2 H2 ⟨rfl, hi, ρ2, z2, O2, w2, g2, hf⟩
  obtain ⟨c1, c2, c3⟩ := wk _ _ g2.ext w2.alloc
  rcases Nat.lt_or_ge i ds.length with hlt | hge
  · have ed : ds.drop i = ds[i] :: ds.drop (i + 1) := List.drop_eq_getElem_cons hlt
    rw [ed] at hf
    obtain ⟨N, hN, hg'⟩ := hf
    refine .inr ⟨c1 i hlt, fun σ3 H3 => ∃ ρ3 z3 O3, Wd X.K M H3 σ3 ρ3 z3 O3 ∧ Go M H1 z1 O1 H3 z3 O3 ∧ N ρ3 z3, fun σ3 H3 ⟨ρ3, z3, O3, w3, g3, n3⟩ => ⟨_, by omega, rfl, hlt, ρ3, z3, O3, w3, g3, hN ρ3 z3 n3⟩, fun x H3 y => ?_⟩
    obtain ⟨sm, rx⟩ := c3 i x H3 ds[i] (List.getElem?_eq_getElem hlt) y
    obtain ⟨w3, g3⟩ := w2.grow sm
    refine ⟨M, ρ2, z2, O2, _, _, w3, rx, hg', fun ρ4 z4 σ4 H4 O4 h4 g4 w4 _ _ => ⟨M, ρ4, z4, O4, _, w4, h4, ?_⟩⟩
    have gg : Go M H1 z1 O1 H4 z4 O4 := g2.trans (g3.toGo.trans g4.toGo)
    have kk := k.after (g1.toGo.trans gg)
    exact ⟨fun ρ' z' σ' H' O' h g w => ⟨ρ', z', O', w, gg.trans g, h⟩, fun ρ' z' σ' H' O' h g w => kk.nx ρ' z' σ' H' O' h g w, fun ρ' z' σ' H' O' h g w => ⟨ρ', z', O', w, gg.trans g, h⟩, kk.rt, kk.ex⟩
  · have e : i = ds.length := by omega
    subst e
    rw [List.drop_length] at hf
    exact .inl ⟨c2, k.nx ρ2 z2 σ2 H2 O2 hf (g1.toGo.trans g2) w2⟩
/-- by a word of the turn, the slots, the pot -/
theorem forD_inv {g : DTG} {tb : DTS} {ds : List D} {R : DEnds} {ρ : List Sl} {z : Z} (J : Nat → List Sl → Z → Prop) (h0 : J 0 ρ z)
    (hs : ∀ i d ρ z, ds[i]? = some d → J i ρ z → g d ρ z fun ρ1 z1 => tb { R with nx := J (i + 1), ct := J (i + 1), bk := R.nx } ρ1 z1) (hd : ∀ ρ z, J ds.length ρ z → R.nx ρ z) : forD g tb ds R ρ z := by
  suffices go : ∀ (es : List D) (i : Nat) (ρ : List Sl) (z : Z), ds.drop i = es → i ≤ ds.length → J i ρ z → forD g tb es R ρ z from go ds 0 ρ z (List.drop_zero ..) (Nat.zero_le _) h0
  intro es
  induction es with
  | nil =>
    intro i ρ z e hi j
    have : i = ds.length := by
      have := congrArg List.length e
      rw [List.length_drop, List.length_nil] at this
      omega
    subst this
    exact hd ρ z j
  | cons d es ih =>
    intro i ρ z e hi j
    have hlt : i < ds.length := by
      rcases Nat.lt_or_ge i ds.length with q | q
      · exact q
      · rw [List.drop_eq_nil_of_le q] at e; cases e
    rw [List.drop_eq_getElem_cons hlt] at e
    injection e with e1 e2
    exact ⟨J (i + 1), fun ρ z q => ih (i + 1) ρ z e2 hlt q, hs i d ρ z (by rw [List.getElem?_eq_getElem hlt, e1]) j⟩
def dWhile (c : DX Bool) (tb : DTS) : DTS := fun R ρ z => ∃ Wm : Nat → List Sl → Z → Prop, (∃ m, Wm m ρ z) ∧ ∀ m ρ z, Wm m ρ z →
  c ρ z (fun b ρ1 z1 => if b = true then ∃ N : List Sl → Z → Prop, (∀ ρ' z', N ρ' z' → ∃ m', m' < m ∧ Wm m' ρ' z') ∧ tb { R with nx := N, ct := N, bk := R.nx } ρ1 z1 else R.nx ρ1 z1) R.ex
end
end Lay

set_option Elab.async false
set_option linter.all false
set_option maxRecDepth 100000
set_option maxHeartbeats 2000000
namespace Lay
open PySem PySem.Spec PyProof.Rows L2
/-! ### comprehensions -/
def wipeD (ρ : List Sl) : List Nat → List Sl
  | [] => ρ
  | v :: vs => (wipeD ρ vs).set v .any
theorem wipeD_len (ρ : List Sl) : ∀ vs : List Nat, (wipeD ρ vs).length = ρ.length
  | [] => rfl
  | v :: vs => by unfold wipeD; rw [List.length_set, wipeD_len ρ vs]
theorem wipeD_out {ρ : List Sl} {i : Nat} : ∀ {vs : List Nat}, i ∉ vs → (wipeD ρ vs)[i]? = ρ[i]?
  | [], _ => rfl
  | v :: vs, h => by
    unfold wipeD
    rw [List.getElem?_set_ne (fun e => h (by rw [e]; exact List.mem_cons_self)), wipeD_out (fun m => h (List.mem_cons_of_mem _ m))]
theorem wipeD_in {ρ : List Sl} {i : Nat} {s : Sl} : ∀ {vs : List Nat}, i ∈ vs → (wipeD ρ vs)[i]? = some s → s = .any
  | v :: vs, h, e => by
    unfold wipeD at e
    by_cases hv : v = i
    · subst hv
      rw [List.getElem?_set] at e
      rw [if_pos rfl] at e
      split at e
      · exact (Option.some.inj e).symm
      · cases e
    · rw [List.getElem?_set_ne hv] at e
      exact wipeD_in ((List.mem_cons.mp h).resolve_left (Ne.symm hv)) e
def offs (O : Nat → Option Addr) (vs : List Nat) : Nat → Option Addr := fun j => if j ∈ vs then none else O j
theorem NN.offs {M : Addr → Prop} {z : Z} {O : Nat → Option Addr} {vs : List Nat} {a : Addr} (h : NN M z (offs O vs) a) : NN M z O a := by
  rcases h with h | h | ⟨j, h⟩
  · exact .inl h
  · exact .inr (.inl h)
  · unfold Lay.offs at h
    split at h
    · cases h
    · exact .inr (.inr ⟨j, h⟩)
theorem Wd.wiped {K : PySem.W.Frag} {M : Addr → Prop} {H : Hp} {σ σ' : L2.St} {ρ : List Sl} {z : Z} {O : Nat → Option Addr} (w : Wd K M H σ ρ z O) {vs : List Nat} (hl : σ'.length = σ.length) (hσ : ∀ j, j ∉ vs → σ'[j]? = σ[j]?) :
    Wd K M H σ' (wipeD ρ vs) z (offs O vs) where
  len := by rw [wipeD_len, hl]; exact w.len
  al := w.al
  pot := w.pot.to ⟨fun a o q _ => q, fun a q => .inl q.offs⟩ fun _ _ _ q => q
  pm := w.pm
  ow := fun j a h => by
    have h' : O j = some a := by
      unfold offs at h
      split at h
      · cases h
      · exact h
    obtain ⟨h1, h2, h3, h4⟩ := w.ow j a h'
    refine ⟨h1, h2, h3, fun l e => h4 l ?_⟩
    unfold offs at e
    split at e
    · cases e
    · exact e
  sl := fun j s h => by
    by_cases hj : j ∈ vs
    · obtain rfl := wipeD_in hj h
      show offs O vs j = none
      unfold offs; rw [if_pos hj]
    · rw [wipeD_out hj] at h
      have e : offs O vs j = O j := by unfold offs; rw [if_neg hj]
      rw [hσ j hj, e]
      exact (w.sl j s h).mono ⟨fun a o q _ => q, fun a q => .inl q.offs⟩ fun _ _ _ q => q
  out := fun j h => by
    unfold offs
    split
    · rfl
    · rename_i hj
      rw [wipeD_out hj] at h
      exact w.out j h
theorem GoE.offs {M : Addr → Prop} {H : Hp} {z : Z} {O : Nat → Option Addr} {vs : List Nat} : GoE M H z O H z (offs O vs) :=
  ⟨⟨fun a o h _ => h, fun a o _ h => h, fun a h => .inl h.offs, fun a h => .inl h, fun a h => h⟩, fun a o h _ => h⟩
/-- a hidden object more -/
def more (M : Addr → Prop) (p : Addr) : Addr → Prop := fun a => M a ∨ a = p
theorem NN.less {M : Addr → Prop} {z : Z} {O : Nat → Option Addr} {p a : Addr} (h : NN M z O a) : NN (more M p) z O a := by
  rcases h with h | h | h
  · exact .inl (.inl h)
  · exact .inr (.inl h)
  · exact .inr (.inr h)
theorem NN.more {M : Addr → Prop} {z : Z} {O : Nat → Option Addr} {p a : Addr} (h : NN (more M p) z O a) : NN M z O a ∨ a = p := by
  rcases h with (h | h) | h | h
  · exact .inl (.inl h)
  · exact .inr h
  · exact .inl (.inr (.inl h))
  · exact .inl (.inr (.inr h))
section
variable {K : PySem.W.Frag} {M : Addr → Prop} {H H' : Hp} {σ : L2.St} {ρ : List Sl} {z z' : Z} {O O' : Nat → Option Addr} {p : Addr} {o : HO}
theorem Wd.hide (w : Wd K M H σ ρ z O) (hp : H p = none) : Wd K (more M p) (upd H p o) σ ρ z O := by
  have al : ∀ a, H a ≠ none → upd H p o a ≠ none := fun a h => by
    by_cases q : a = p
    · rw [q, upd_same]; exact Option.some_ne_none _
    · rw [upd_ne q]; exact h
  have ne : ∀ a, H a ≠ none → a ≠ p := fun a h q => h (by rw [q]; exact hp)
  have ex : Ext (NN M z O) H (NN (more M p) z O) (upd H p o) := ⟨fun a u h _ => by rw [upd_ne (ne_of_none h hp)]; exact h, fun a h => by
    rcases h.more with q | q
    · exact .inl q
    · exact .inr (by rw [q]; exact hp)⟩
  refine ⟨w.len, fun a h => ?_, w.pot.to ex fun a u _ q => by rw [upd_ne (ne_of_none q hp)]; exact q, fun a h m => ?_, fun i a h => ?_, fun i s h => (w.sl i s h).mono ex fun a u _ q => by rw [upd_ne (ne_of_none q hp)]; exact q, w.out⟩
  · rcases h with h | h
    · exact al a (w.al a h)
    · rw [h, upd_same]; exact Option.some_ne_none _
  · rcases m with m | m
    · exact w.pm a h m
    · exact ne a (w.pot.ne h) m
  · obtain ⟨h1, h2, h3, h4⟩ := w.ow i a h
    exact ⟨fun m => m.elim h1 (ne a h3), h2, al a h3, h4⟩
/-- without it -/
theorem Wd.bare (w : Wd K (more M p) H σ ρ z O) (np : ¬ M p) : Wd K M (fun a => if a = p then none else H a) σ ρ z O ∧ Ext (NN (more M p) z O) H (NN M z O) (fun a => if a = p then none else H a) := by
  have nn : ∀ a, NN M z O a → a ≠ p := fun a h e => by
    rcases h with h | h | ⟨i, h⟩
    · exact np (by rw [← e]; exact h)
    · exact w.pm a h (.inr e)
    · exact (w.ow i a h).1 (.inr e)
  have ex : Ext (NN (more M p) z O) H (NN M z O) (fun a => if a = p then none else H a) := ⟨fun a u h n => by
    have q : a ≠ p := fun e => n (.inl (.inr e))
    show (if a = p then none else H a) = some u
    rw [if_neg q]; exact h, fun a h => .inl h.less⟩
  refine ⟨⟨w.len, fun a h => ?_, w.pot.to ex fun a u h q => ?_, fun a h m => w.pm a h (.inl m), fun i a h => ?_, fun i s h => (w.sl i s h).mono ex fun a u e q => ?_, w.out⟩, ex⟩
  · show (if a = p then none else H a) ≠ none
    rw [if_neg (nn a (.inl h))]; exact w.al a (.inl h)
  · show (if a = p then none else H a) = some u
    rw [if_neg (nn a (.inr (.inl h)))]; exact q
  · obtain ⟨h1, h2, h3, h4⟩ := w.ow i a h
    refine ⟨fun m => h1 (.inl m), h2, ?_, h4⟩
    show (if a = p then none else H a) ≠ none
    rw [if_neg (nn a (.inr (.inr ⟨i, h⟩)))]; exact h3
  · show (if a = p then none else H a) = some u
    rw [if_neg (nn a (.inr (.inr ⟨i, e⟩)))]; exact q
/-- the hidden one written -/
theorem Wd.writeM (w : Wd K (more M p) H σ ρ z O) : Wd K (more M p) (upd H p o) σ ρ z O := by
  have al : ∀ a, H a ≠ none → upd H p o a ≠ none := fun a h => by
    by_cases q : a = p
    · rw [q, upd_same]; exact Option.some_ne_none _
    · rw [upd_ne q]; exact h
  have ex : Ext (NN (more M p) z O) H (NN (more M p) z O) (upd H p o) := ⟨fun a u h n => by rw [upd_ne (fun e => n (.inl (.inr e)))]; exact h, fun a h => .inl h⟩
  refine ⟨w.len, fun a h => al a (w.al a h), w.pot.to ex fun a u h q => by rw [upd_ne (fun e => w.pm a h (.inr e))]; exact q, w.pm, fun i a h => ?_, fun i s h => (w.sl i s h).mono ex fun a u e q => by rw [upd_ne (fun z => (w.ow i a e).1 (.inr z))]; exact q, w.out⟩
  obtain ⟨h1, h2, h3, h4⟩ := w.ow i a h
  exact ⟨h1, h2, al a h3, h4⟩
theorem GoE.low (g : GoE (more M p) H z O H' z' O') (w : Wd K (more M p) H' σ ρ z' O') (np : ¬ M p) : GoE M H z O H' z' O' := by
  refine ⟨⟨fun a u h n => ?_, fun a u m h => g.km a u (.inl m) h, fun a h => ?_, g.zp, g.al⟩, g.fx⟩
  · by_cases q : a = p
    · exact g.km a u (.inr q) h
    · exact g.st a u h fun m => m.more.elim n q
  · rcases g.nw a h.less with q | q
    · rcases q.more with q | q
      · exact .inl q
      · rcases h with h | h | ⟨i, h⟩
        · exact absurd (by rw [← q]; exact h) np
        · exact absurd (.inr q) (w.pm a h)
        · exact absurd (.inr q) (w.ow i a h).1
    · exact .inr q
/-- from ahead of its making -/
theorem GoE.upTo (g : GoE M H z O H' z' O') (hp : H p = none) (o : HO) : GoE M H z O (upd H' p o) z' O' := by
  have ne : ∀ a u, H a = some u → a ≠ p := fun a u h => ne_of_none h hp
  refine ⟨⟨fun a u h n => by rw [upd_ne (ne a u h)]; exact g.st a u h n, fun a u m h => by rw [upd_ne (ne a u h)]; exact g.km a u m h, g.nw, g.zp, fun a h => ?_⟩, fun a u h n => by rw [upd_ne (ne a u h)]; exact g.fx a u h n⟩
  by_cases q : a = p
  · rw [q, upd_same]; exact Option.some_ne_none _
  · rw [upd_ne q]; exact g.al a h
theorem GoE.without (g : GoE M H z O H' z' O') (hp : H p = none) : GoE M H z O (fun a => if a = p then none else H' a) z' O' := by
  have ne : ∀ a u, H a = some u → a ≠ p := fun a u h => ne_of_none h hp
  have e : ∀ a u, H a = some u → ∀ v, H' a = some v → (if a = p then none else H' a) = some v := fun a u h v q => by rw [if_neg (ne a u h)]; exact q
  refine ⟨⟨fun a u h n => e a u h _ (g.st a u h n), fun a u m h => e a u h _ (g.km a u m h), g.nw, g.zp, fun a h => ?_⟩, fun a u h n => e a u h _ (g.fx a u h n)⟩
  show (if a = p then none else H' a) ≠ none
  rw [if_neg (fun q => h (by rw [q]; exact hp))]
  exact g.al a h
end
abbrev noX : KX := fun _ _ _ _ _ => False
def lcD (g : DTG) (tt : DX Bool) (te : DX D) (vs : List Nat) : List D → List D → List Sl → Z → (List D → List Sl → Z → Prop) → Prop
  | [], acc, ρ, z, R => R acc ρ z
  | d :: ds, acc, ρ, z, R => ∃ S : List D → List Sl → Z → Prop, (∀ a ρ z, S a ρ z → lcD g tt te vs ds a ρ z R) ∧
    g d ρ z fun ρ1 z1 => tt ρ1 z1 (fun b ρ2 z2 => if b = true then te ρ2 z2 (fun y ρ3 z3 => acc.length < sizeLine ∧ S (acc ++ [y]) (wipeD ρ3 vs) z3) noX else S acc (wipeD ρ2 vs) z2) noX
def dLc (t : DX (List D)) (g : DTG) (tt : DX Bool) (te : DX D) (vs : List Nat) : DX (List D) := fun ρ z R RX => t ρ z (fun ds ρ' z' => lcD g tt te vs ds [] (wipeD ρ' vs) z' R) RX
abbrev W0 : WX := fun _ _ _ _ => False
theorem xok0 {K : PySem.W.Frag} {M : Addr → Prop} {H : Hp} {z : Z} {O : Nat → Option Addr} : XOk K M W0 H z O noX := fun _ _ _ _ _ _ _ _ _ h => h.elim
theorem wipe_same {σ σ2 : L2.St} {vs : List Nat} (hl : σ2.length = σ.length) (h : ∀ j, j ∉ vs → σ2[j]? = σ[j]?) : wipe σ2 vs = wipe σ vs := by
  refine List.ext_getElem? fun j => ?_
  by_cases hj : j ∈ vs
  · have e : ∀ τ : L2.St, (wipe τ vs)[j]? = if j < τ.length then some none else none := fun τ => by
      rcases Nat.lt_or_ge j τ.length with q | q
      · rw [if_pos q]
        cases e1 : (wipe τ vs)[j]? with
        | none => rw [List.getElem?_eq_none_iff, wipe_length] at e1; omega
        | some o =>
          cases o with
          | none => rfl
          | some x => exact absurd hj (wipe_some e1).2
      · rw [if_neg (by omega)]
        exact List.getElem?_eq_none (by rw [wipe_length]; exact q)
    rw [e, e, hl]
  · rw [wipe_out hj, wipe_out hj]; exact h j hj
section
variable {X : Cx} {W : WX} {elt tg iter : Expr} {ifs : List Expr} {pos : Pos}
theorem lc_ok {K : PySem.W.Frag} {t : DX (List D)} {g : DTG} {tt : DX Bool} {te : DX D} {ss vs : List Nat} {σ : L2.St} {H : Hp} {Q : VK} (hss : ∀ i ∈ ss, i ∈ vs) (h : UN K W (dLc t g tt te vs) σ H Q) :
    tLc (UI K W t) (UT K ss g) (UG K W0 relB tt) (UG K W0 (relE K) te) vs σ H Q := by
  obtain ⟨M, ρ, z, O, R, RX, w, h, x, k⟩ := h
  refine ⟨M, ρ, z, O, _, RX, w, h, x, fun ds ρ1 z1 H1 O1 J hd g1 w1 wk Dd hD => ?_⟩
  have np : ¬ M Dd := fun m => w1.al Dd m hD
  refine ⟨fun i m H2 => m = ds.length - i ∧ i ≤ ds.length ∧ ∃ acc as ρ2 z2 O2, Wd K (more M Dd) H2 σ ρ2 z2 O2 ∧ GoE M H1 z1 O1 H2 z2 O2 ∧ H2 Dd = some (.lst as) ∧ Reps K (NN (more M Dd) z2 O2) H2 acc as ∧ (∃ ρ0, ρ2 = wipeD ρ0 vs) ∧ lcD g tt te vs (ds.drop i) acc ρ2 z2 R,
    ⟨_, rfl, Nat.zero_le _, [], [], wipeD ρ1 vs, z1, offs O1 vs, (w1.wiped rfl fun _ _ => rfl).hide hD, GoE.upTo GoE.offs hD _, upd_same, .nil, ⟨ρ1, rfl⟩, by rw [List.drop_zero]; exact hd⟩, ?_⟩
  rintro i m H2 ⟨rfl, hi, acc, as, ρ2, z2, O2, w2, g2, eD, ra, ⟨ρ0, e0⟩, hf⟩
  have ex2 : Ext (NN M z1 O1) H1 (NN (more M Dd) z2 O2) H2 := ⟨g2.st, fun a h => by
    rcases h.more with q | q
    · exact g2.nw a q
    · exact .inr (by rw [q]; exact hD)⟩
  obtain ⟨c1, c2, c3⟩ := wk _ _ ex2 w2.alloc
  rcases Nat.lt_or_ge i ds.length with hlt | hge
  · have ed : ds.drop i = ds[i] :: ds.drop (i + 1) := List.drop_eq_getElem_cons hlt
    rw [ed] at hf
    obtain ⟨S, hS, hg⟩ := hf
    refine .inr ⟨c1 i hlt, fun H3 => ∃ acc as ρ3 z3 O3, Wd K (more M Dd) H3 σ ρ3 z3 O3 ∧ GoE M H1 z1 O1 H3 z3 O3 ∧ H3 Dd = some (.lst as) ∧ Reps K (NN (more M Dd) z3 O3) H3 acc as ∧ (∃ ρ0, ρ3 = wipeD ρ0 vs) ∧ S acc ρ3 z3,
      fun H3 ⟨acc, as, ρ3, z3, O3, q1, q2, q3, q4, q6, q5⟩ => ⟨_, by omega, rfl, hlt, acc, as, ρ3, z3, O3, q1, q2, q3, q4, q6, hS _ _ _ q5⟩, fun y H3 hy => ?_⟩
    obtain ⟨sm, rx⟩ := c3 i y H3 ds[i] (List.getElem?_eq_getElem hlt) hy
    obtain ⟨w3, g3⟩ := w2.grow sm
    have w3' : Wd K (more M Dd) H3 (wipe σ vs) (wipeD ρ2 vs) z2 (offs O2 vs) := w3.wiped (wipe_length ..) fun j hj => wipe_out hj
    have ewd : wipeD ρ2 vs = ρ2 := by
      rw [e0]
      refine List.ext_getElem? fun j => ?_
      by_cases hj : j ∈ vs
      · cases q : (wipeD ρ0 vs)[j]? with
        | none =>
          rw [List.getElem?_eq_none_iff] at q ⊢
          rw [wipeD_len]; exact q
        | some s =>
          obtain rfl := wipeD_in hj q
          cases q2 : (wipeD (wipeD ρ0 vs) vs)[j]? with
          | none => rw [List.getElem?_eq_none_iff, wipeD_len] at q2; have := lt_of_get q; omega
          | some s2 => obtain rfl := wipeD_in hj q2; rfl
      · rw [wipeD_out hj]
    rw [ewd] at w3'
    refine ⟨more M Dd, ρ2, z2, offs O2 vs, _, _, w3', Rep.mono GoE.offs.ext _ _ rx, hg, fun ρ4 z4 σ4 H4 O4 h4 g4 w4 l4 e4 => ?_⟩
    have hw4 : wipe σ4 vs = wipe (wipe σ vs) vs := wipe_same l4 fun j hj => e4 j fun m => hj (hss j m)
    have hww : wipe (wipe σ vs) vs = wipe σ vs := wipe_same (wipe_length ..) fun j hj => wipe_out hj
    refine ⟨hw4.trans hww, more M Dd, ρ4, z4, O4, _, noX, w4, h4, xok0, fun b ρ5 z5 c H5 O5 h5 g5 w5 r => ?_⟩
    obtain rfl : c = b := r
    have back : ∀ {H6 : Hp} {ρ6 : List Sl} {z6 : Z} {O6 : Nat → Option Addr}, Wd K (more M Dd) H6 σ4 ρ6 z6 O6 → Wd K (more M Dd) H6 σ (wipeD ρ6 vs) z6 (offs O6 vs) := fun w6 => w6.wiped (by rw [l4, wipe_length]) fun j hj => by
      rw [e4 j fun m => hj (hss j m), wipe_out hj]
    have gM : GoE (more M Dd) H2 z2 O2 H4 z4 O4 := g3.trans (GoE.offs.trans g4)
    cases c with
    | true =>
      rw [if_pos rfl] at h5 ⊢
      refine ⟨more M Dd, ρ5, z5, O5, _, noX, w5, h5, xok0, fun y2 ρ6 z6 v6 H6 O6 ⟨hl, h6⟩ g6 w6 r6 => ?_⟩
      have gT : GoE (more M Dd) H2 z2 O2 H6 z6 (offs O6 vs) := gM.trans (g5.trans (g6.trans .offs))
      have wT := back w6
      have eD6 : H6 Dd = some (.lst as) := gT.km Dd _ (.inr rfl) eD
      have ra6 : Reps K (NN (more M Dd) z6 (offs O6 vs)) H6 acc as := Reps.mono gT.ext _ _ ra
      refine ⟨as, eD6, by rw [← ra6.length]; exact hl, acc ++ [y2], as ++ [v6], _, z6, offs O6 vs, wT.writeM, (g2.trans (gT.low wT np)).upTo hD _, upd_same, ?_, ⟨ρ6, rfl⟩, h6⟩
      refine Reps.mono ⟨fun a u h n => by rw [upd_ne (fun e => n (.inl (.inr e)))]; exact h, fun a h => .inl h⟩ _ _ (ra6.append (.cons (Rep.mono GoE.offs.ext _ _ r6) .nil))
    | false =>
      rw [if_neg Bool.false_ne_true] at h5 ⊢
      have gT : GoE (more M Dd) H2 z2 O2 H5 z5 (offs O5 vs) := gM.trans (g5.trans .offs)
      have wT := back w5
      exact ⟨acc, as, _, z5, offs O5 vs, wT, g2.trans (gT.low wT np), gT.km Dd _ (.inr rfl) eD, Reps.mono gT.ext _ _ ra, ⟨ρ5, rfl⟩, h5⟩
  · have e : i = ds.length := by omega
    subst e
    rw [List.drop_length] at hf
    obtain ⟨wb, eb⟩ := w2.bare np
    refine .inl ⟨c2, k acc ρ2 z2 Dd as (fun a => if a = Dd then none else H2 a) H2 O2 hf (g1.trans (g2.without hD)) wb (fun a u q => ?_) (if_pos rfl) eD (Reps.mono eb _ _ ra)⟩
    replace q : (if a = Dd then none else H2 a) = some u := q
    by_cases hq : a = Dd
    · rw [if_pos hq] at q; cases q
    · rw [if_neg hq] at q; exact q
theorem dn_lc {scope : Scope} {own : List (Str × Nat)} {t : DX (List D)} {g : DTG} {tt : DX Bool} {te : DX D} {ss : List Nat} (hc : X.calm = true) (hN : X.N.Nodup) (hi : DI X W tg iter t) (ok : BlkOk X.N X.env.scope scope own)
    (hg : ∀ (s : Shared) (H : Hp) (C : Addr) (cl : List (Str × Addr)) (fp : List Addr), DG (X.blk s H scope (compEnvC scope cl C X.env) fp) tg ss g)
    (ht : ∀ (s : Shared) (H : Hp) (C : Addr) (cl : List (Str × Addr)) (fp : List Addr), PTs (X.blk s H scope (compEnvC scope cl C X.env) fp) ifs (UG X.K W0 relB tt))
    (he : ∀ (s : Shared) (H : Hp) (C : Addr) (cl : List (Str × Addr)) (fp : List Addr), DE (X.blk s H scope (compEnvC scope cl C X.env) fp) W0 elt te) (hss : ∀ i ∈ ss, i ∈ own.map (·.2) := by decide) (hs : ∀ x, foldedSetIterable iter X.env x = pure x := by intro _; rfl) :
    DN X W (.ListComp elt [⟨tg, iter, ifs, 0⟩] scope pos) (dLc t g tt te (own.map (·.2))) := pe_to (pe_lc (g := UT X.K ss g) (tt := UG X.K W0 relB tt) (te := UG X.K W0 (relE X.K) te) hc hN hi ok hg ht he hs) fun _ _ _ h => lc_ok hss h
def dYes : DX Bool := fun ρ z R RX => R true ρ z
theorem dts_nil : PTs X [] (UG X.K W0 relB dYes) := ⟨fun pins s σ H Q I ⟨M, ρ, z, O, R, RX, w, h, x, k⟩ => pts_nil.run pins s σ H Q I (k true ρ z true H O h .refl w rfl)⟩
theorem UN.let {K : PySem.W.Frag} {t : DX (List D)} {σ : L2.St} {H : Hp} {Q : VK} (h : UG K W (relE K) (dLet t) σ H Q) : UN K W t σ H Q :=
  let ⟨M, ρ, z, O, R, RX, w, h, x, k⟩ := h
  ⟨M, ρ, z, O, _, RX, w, h, x, fun ds ρ1 z1 p vs H1 H' O1 h1 g1 w1 s hp e r => k _ ρ1 z1 _ H' O1 h1 (g1.trans (w1.grow s).2) (w1.grow s).1 (Rep.lstNew w1.alloc hp s e r)⟩
/-- by a word of the turn, what was made, the slots, the pot -/
theorem lcD_inv {g : DTG} {tt : DX Bool} {te : DX D} {vs : List Nat} {ds : List D} {ρ : List Sl} {z : Z} {R : List D → List Sl → Z → Prop} (J : Nat → List D → List Sl → Z → Prop) (h0 : J 0 [] ρ z)
    (hs : ∀ i d acc ρ z, ds[i]? = some d → J i acc ρ z → g d ρ z fun ρ1 z1 => tt ρ1 z1 (fun b ρ2 z2 => if b = true then te ρ2 z2 (fun y ρ3 z3 => acc.length < sizeLine ∧ J (i + 1) (acc ++ [y]) (wipeD ρ3 vs) z3) noX else J (i + 1) acc (wipeD ρ2 vs) z2) noX)
    (hd : ∀ acc ρ z, J ds.length acc ρ z → R acc ρ z) : lcD g tt te vs ds [] ρ z R := by
  suffices go : ∀ (es : List D) (i : Nat) (acc : List D) (ρ : List Sl) (z : Z), ds.drop i = es → i ≤ ds.length → J i acc ρ z → lcD g tt te vs es acc ρ z R from go ds 0 [] ρ z (List.drop_zero ..) (Nat.zero_le _) h0
  intro es
  induction es with
  | nil =>
    intro i acc ρ z e hi j
    have : i = ds.length := by
      have := congrArg List.length e
      rw [List.length_drop, List.length_nil] at this
      omega
    subst this
    exact hd acc ρ z j
  | cons d es ih =>
    intro i acc ρ z e hi j
    have hlt : i < ds.length := by
      rcases Nat.lt_or_ge i ds.length with q | q
      · exact q
      · rw [List.drop_eq_nil_of_le q] at e; cases e
    rw [List.drop_eq_getElem_cons hlt] at e
    injection e with e1 e2
    exact ⟨J (i + 1), fun a ρ z q => ih (i + 1) a ρ z e2 hlt q, hs i d acc ρ z (by rw [List.getElem?_eq_getElem hlt, e1]) j⟩
end
end Lay

set_option Elab.async false
set_option linter.all false
set_option maxRecDepth 100000
set_option maxHeartbeats 2000000
namespace Lay
open PySem PySem.Spec PyProof.Rows L2
/-! ### what a def promises, over trees -/
abbrev PX := Addr → List Str → List D → Z → Prop
abbrev KD' := D → List Sl → Z → Prop
abbrev PSp := List D → Z → (D → Z → Prop) → PX → Prop
abbrev O0 : Nat → Option Addr := fun _ => none
/-- from a call to its end -/
structure Fin (K : PySem.W.Frag) (M : Addr → Prop) (H : Hp) (z : Z) (H' : Hp) (z' : Z) : Prop where
  pot : PotOk K (NN M z' O0) H' z'
  pm : ∀ a, z'.has a → ¬ M a
  zp : ∀ a, z'.has a → z.has a ∨ H a = none
  fx : ∀ a o, H a = some o → ¬ z.has a → H' a = some o
  al : ∀ a, H a ≠ none → H' a ≠ none
def XPok (K : PySem.W.Frag) (M : Addr → Prop) (H : Hp) (z : Z) (E : XK) (RX : PX) : Prop := ∀ C ns ds z' od H', RX C ns ds z' → Fin K M H z H' z' → ExAt K (NN M z' O0) H' od ns ds → E (.ref C) od H'
@[irreducible] def lift (K : PySem.W.Frag) (sp : PSp) : Sp := fun vs H Q E => ∃ M ds z R RX, (∀ a, M a → H a ≠ none) ∧ PotOk K (NN M z O0) H z ∧ (∀ a, z.has a → ¬ M a) ∧ Reps K (NN M z O0) H ds vs ∧ sp ds z R RX ∧
  (∀ d z' v H', R d z' → Fin K M H z H' z' → Rep K (NN M z' O0) H' d v → Q v H') ∧ XPok K M H z E RX
/-- as the caller's hidden ones: its own things too -/
def hid (M : Addr → Prop) (O : Nat → Option Addr) : Addr → Prop := fun a => M a ∨ ∃ i, O i = some a
theorem NN.hid {M : Addr → Prop} {z : Z} {O : Nat → Option Addr} {a : Addr} : NN (hid M O) z O0 a ↔ NN M z O a := by
  constructor
  · rintro ((h | h) | h | ⟨i, h⟩)
    · exact .inl h
    · exact .inr (.inr h)
    · exact .inr (.inl h)
    · cases h
  · rintro (h | h | h)
    · exact .inl (.inl h)
    · exact .inr (.inl h)
    · exact .inl (.inr h)
section
variable {K : PySem.W.Frag} {M : Addr → Prop} {H H' : Hp} {σ : L2.St} {ρ : List Sl} {z z' : Z} {O O' : Nat → Option Addr}
theorem ext_hid {z : Z} : Ext (NN (hid M O) z O0) H (NN M z O) H := ⟨fun a o h _ => h, fun a h => .inl (NN.hid.mpr h)⟩
theorem hid_ext {z : Z} : Ext (NN M z O) H (NN (hid M O) z O0) H := ⟨fun a o h _ => h, fun a h => .inl (NN.hid.mp h)⟩
theorem Wd.fin (w : Wd K M H σ ρ z O) (f : Fin K (hid M O) H z H' z') : Wd K M H' σ ρ z' O ∧ GoE M H z O H' z' O := by
  have al : ∀ a, NN M z O a → ¬ z.has a → ∃ o, H a = some o ∧ H' a = some o := fun a h n => by
    cases e : H a with
    | none => exact absurd e (w.alloc a h)
    | some o => exact ⟨o, rfl, f.fx a o e n⟩
  have nw : ∀ a, NN M z' O a → NN M z O a ∨ H a = none := fun a h => by
    rcases h with h | h | h
    · exact .inl (.inl h)
    · exact (f.zp a h).imp (fun q => .inr (.inl q)) id
    · exact .inl (.inr (.inr h))
  have g : GoE M H z O H' z' O := ⟨⟨fun a o h n => f.fx a o h fun q => n (.inr (.inl q)), fun a o m h => f.fx a o h fun q => w.pm a q m, nw, f.zp, f.al⟩, f.fx⟩
  refine ⟨⟨w.len, fun a h => f.al a (w.al a h), f.pot.to ext_hid fun _ _ _ q => q, fun a h m => f.pm a h (.inl m), fun i a h => ?_, fun i s h => (w.sl i s h).mono g.ext fun a o e q => ?_, w.out⟩, g⟩
  · obtain ⟨h1, h2, h3, h4⟩ := w.ow i a h
    exact ⟨h1, fun q => f.pm a q (.inr ⟨i, h⟩), f.al a h3, h4⟩
  · exact f.fx a o q (w.ow i a e).2.1
theorem Wd.pmh (w : Wd K M H σ ρ z O) : ∀ a, z.has a → ¬ hid M O a := fun a h m => by
  rcases m with m | ⟨i, m⟩
  · exact w.pm a h m
  · exact (w.ow i a m).2.1 h
theorem Wd.alh (w : Wd K M H σ ρ z O) : ∀ a, hid M O a → H a ≠ none := fun a m => by
  rcases m with m | ⟨i, m⟩
  · exact w.al a m
  · exact (w.ow i a m).2.2.1
end
section
variable {X : Cx} {W : WX} {e : Expr} {es : List Expr} {pos p : Pos} {CX : CXT} {j k n : Nat} {x : Str} {st : Stmt} {ps ks : List Str} {sp : PSp}
def dCall (sp : PSp) (t : DX (List D)) : DX D := fun ρ z R RX => t ρ z (fun ds ρ' z' => sp ds z' (fun d z2 => R d ρ' z2) (fun C ns es z2 => RX C ns es ρ' z2)) RX
/-- where nothing may be let out -/
abbrev noP : PX := fun _ _ _ _ => False
def dCall0 (sp : PSp) (t : DX (List D)) : DX D := fun ρ z R RX => t ρ z (fun ds ρ' z' => sp ds z' (fun d z2 => R d ρ' z2) noP) RX
theorem lift_at {K : PySem.W.Frag} {M : Addr → Prop} {H : Hp} {σ : L2.St} {ρ : List Sl} {z : Z} {O : Nat → Option Addr} {R : KD'} {RX : KX} {ds : List D} {vs : List V} {Q : VK} (w : Wd K M H σ ρ z O) (r : Reps K (NN M z O) H ds vs)
    (h : sp ds z (fun d z2 => R d ρ z2) (fun C ns es z2 => RX C ns es ρ z2)) (k : ∀ d z' v H', R d ρ z' → GoE M H z O H' z' O → Wd K M H' σ ρ z' O → Rep K (NN M z' O) H' d v → Q v H') (x : XOk K M W H z O RX) : lift K sp vs H Q (WE W σ) := by
  unfold lift
  refine ⟨hid M O, ds, z, _, _, w.alh, w.pot.to hid_ext fun _ _ _ q => q, w.pmh, Reps.mono hid_ext _ _ r, h, fun d z' v H' hd f r => ?_, fun C ns es z' od H' hx f ex => ?_⟩
  · obtain ⟨w', g'⟩ := w.fin f
    exact k d z' v H' hd g' w' (Rep.mono ext_hid _ _ r)
  · obtain ⟨w', g'⟩ := w.fin f
    exact x C ns es ρ z' od H' O σ hx g'.toGo w' (ex.mono ext_hid)
theorem lift_at0 {K : PySem.W.Frag} {M : Addr → Prop} {H : Hp} {σ : L2.St} {ρ : List Sl} {z : Z} {O : Nat → Option Addr} {R : KD'} {ds : List D} {vs : List V} {Q : VK} {E : XK} (w : Wd K M H σ ρ z O) (r : Reps K (NN M z O) H ds vs)
    (h : sp ds z (fun d z2 => R d ρ z2) noP) (k : ∀ d z' v H', R d ρ z' → GoE M H z O H' z' O → Wd K M H' σ ρ z' O → Rep K (NN M z' O) H' d v → Q v H') : lift K sp vs H Q E := by
  unfold lift
  refine ⟨hid M O, ds, z, _, _, w.alh, w.pot.to hid_ext fun _ _ _ q => q, w.pmh, Reps.mono hid_ext _ _ r, h, fun d z' v H' hd f r => ?_, fun C ns es z' od H' hx f ex => hx.elim⟩
  obtain ⟨w', g'⟩ := w.fin f
  exact k d z' v H' hd g' w' (Rep.mono ext_hid _ _ r)
theorem UG.call {K : PySem.W.Frag} {t : DX (List D)} {σ : L2.St} {H : Hp} {Q : VK} (h : UG K W (relE K) (dCall sp t) σ H Q) : tCallS (lift K sp) (WE W) (UG K W (relEs K) t) σ H Q :=
  let ⟨M, ρ, z, O, R, RX, w, h, x, k⟩ := h
  ⟨M, ρ, z, O, _, RX, w, h, x, fun ds ρ1 z1 vs H1 O1 h1 g1 w1 r1 => lift_at w1 r1 h1 (fun d z' v H' hd g w r => k d ρ1 z' v H' O1 hd (g1.trans g) w r) (x.after g1.toGo)⟩
theorem UG.call0 {K : PySem.W.Frag} {t : DX (List D)} {σ : L2.St} {H : Hp} {Q : VK} {E : L2.St → XK} (h : UG K W (relE K) (dCall0 sp t) σ H Q) : tCallS (lift K sp) E (UG K W (relEs K) t) σ H Q :=
  let ⟨M, ρ, z, O, R, RX, w, h, x, k⟩ := h
  ⟨M, ρ, z, O, _, RX, w, h, x, fun ds ρ1 z1 vs H1 O1 h1 g1 w1 r1 => lift_at0 w1 r1 h1 (fun d z' v H' hd g w r => k d ρ1 z' v H' O1 hd (g1.trans g) w r)⟩
theorem Callee.dE {t : DX (List D)} (C : Callee X.prog X.w X.K X.mg X.base CX k x st ps (lift X.K sp)) (hG : Gl X x) (hr : Room j X.A) (hg : X.A.guards = some []) (hx : ∀ σ, PassesAt CX X σ (WE W σ)) (ha : DAs X W (e :: es) t) (hj : k ≤ j := by decide)
    (hdb : (x == ("__debug__" : Str)) = false := by decide) (he : starEach (e :: es) X.env = (false, eval e X.env) :: starEach es X.env := by rfl) (hpl : (backTo pos (starEach es X.env)).any (·.1) = false := by rfl) :
    DE X W (.Call (.Name x p) (e :: es) [] pos) (dCall sp t) := pe_to (C.callE hG hr hg hx ha hj hdb he hpl) fun _ _ _ h => h.call
theorem Callee.d0 {t : DX (List D)} {E : L2.St → XK} (C : Callee X.prog X.w X.K X.mg X.base CX k x st ps (lift X.K sp)) (hG : Gl X x) (hr : Room j X.A) (hg : X.A.guards = some []) (hx : ∀ σ, PassesAt CX X σ (E σ)) (ha : DAs X W (e :: es) t) (hj : k ≤ j := by decide)
    (hdb : (x == ("__debug__" : Str)) = false := by decide) (he : starEach (e :: es) X.env = (false, eval e X.env) :: starEach es X.env := by rfl) (hpl : (backTo pos (starEach es X.env)).any (·.1) = false := by rfl) :
    DE X W (.Call (.Name x p) (e :: es) [] pos) (dCall0 sp t) := pe_to (C.callE hG hr hg hx ha hj hdb he hpl) fun _ _ _ h => h.call0
end
end Lay

set_option Elab.async false
set_option linter.all false
set_option maxRecDepth 100000
set_option maxHeartbeats 2000000
namespace Lay
open PySem PySem.Spec PyProof.Rows L2
section
variable {X : Cx} {W : WX} {e o a b : Expr} {es : List Expr} {pos p apos : Pos} {CX : CXT} {j k n : Nat} {x m : Str} {st : Stmt} {ps ks : List Str} {sp : PSp} {kws : List Keyword} {C : Addr} {D' : Addr → FuncData → Prop}
  {g : List Value → List Value → List Value} {gV : List V → List V → List V} {gD : List D → List D → List D}
/-! ### keywords -/
/-- the same order of arguments on values and on trees -/
def KwD (n m : Nat) (gV : List V → List V → List V) (gD : List D → List D → List D) : Prop := ∀ (K : PySem.W.Frag) (N : Addr → Prop) (H : Hp) (ds es : List D) (vs ws : List V), ds.length = n → es.length = m → Reps K N H ds vs → Reps K N H es ws → Reps K N H (gD ds es) (gV vs ws)
def dCallKw (n m : Nat) (gD : List D → List D → List D) (sp : PSp) (t tk : DX (List D)) : DX D := fun ρ z R RX => t ρ z (fun ds ρ1 z1 => tk ρ1 z1 (fun es ρ2 z2 => ds.length = n ∧ es.length = m ∧ sp (gD ds es) z2 (fun d z3 => R d ρ2 z3) (fun C ns es z3 => RX C ns es ρ2 z3)) RX) RX
def dCallKw0 (n m : Nat) (gD : List D → List D → List D) (sp : PSp) (t tk : DX (List D)) : DX D := fun ρ z R RX => t ρ z (fun ds ρ1 z1 => tk ρ1 z1 (fun es ρ2 z2 => ds.length = n ∧ es.length = m ∧ sp (gD ds es) z2 (fun d z3 => R d ρ2 z3) noP) RX) RX
theorem UG.callKw0 {K : PySem.W.Frag} {t tk : DX (List D)} {nn mm : Nat} {σ : L2.St} {H : Hp} {Q : VK} {E : XK} (kd : KwD nn mm gV gD) (h : UG K W (relE K) (dCallKw0 nn mm gD sp t tk) σ H Q) : tKw nn mm (lift K sp) gV E (UG K W (relEs K) t) (UG K W (relEs K) tk) σ H Q :=
  let ⟨M, ρ, z, O, R, RX, w, h, x, k⟩ := h
  ⟨M, ρ, z, O, _, RX, w, h, x, fun ds ρ1 z1 vs H1 O1 h1 g1 w1 r1 => ⟨M, ρ1, z1, O1, _, RX, w1, h1, x.after g1.toGo, fun es ρ2 z2 ws H2 O2 ⟨l1, l2, h2⟩ g2 w2 r2 =>
    ⟨by rw [← Reps.length r1]; exact l1, by rw [← Reps.length r2]; exact l2, lift_at0 w2 (kd K _ _ ds es vs ws l1 l2 (Reps.mono g2.ext _ _ r1) r2) h2 (fun d z' v H' hd g w r => k d ρ2 z' v H' O2 hd (g1.trans (g2.trans g)) w r)⟩⟩⟩
theorem Callee.dkw {t tk : DX (List D)} (C : Callee X.prog X.w X.K X.mg X.base CX0 k x st ps (lift X.K sp)) (kd : KwD n ks.length gV gD) (hb : ∀ (f : Addr) (fd : FuncData), Fun X.K x x st f fd → KwB X.K fd ps n ks g gV) (hG : Gl X x) (hr : Room j X.A) (hg : X.A.guards = some [])
    (ha : DAs X W (e :: es) t) (hkw : DKw X W kws tk) (hj : k ≤ j := by decide) (hall : (backToKw pos (keywordEach kws X.env)).all (·.1.isSome) = true := by rfl) (hks : (backToKw pos (keywordEach kws X.env)).filterMap (·.1) = ks := by rfl)
    (hdb : (x == ("__debug__" : Str)) = false := by decide) (he : starEach (e :: es) X.env = (false, eval e X.env) :: starEach es X.env := by rfl)
    (hpl : ((backTo pos (starEach (e :: es) X.env)).any (·.1) || (backToKw pos (keywordEach kws X.env)).any (·.1.isNone)) = false := by rfl) :
    DE X W (.Call (.Name x p) (e :: es) kws pos) (dCallKw0 n ks.length gD sp t tk) := pe_to (C.kw hb hG hr hg ha hkw hj hall hks hdb he hpl) fun _ _ _ h => h.callKw0 kd
/-! ### methods -/
def dMeth (C : Addr) (m : Str) (sp : PSp) (to : DX D) (t : DX (List D)) : DX D := fun ρ z R RX => to ρ z (fun d ρ1 z1 => (∃ ns ds, d = .ins C ns ds ∧ m ∉ ns) ∧ t ρ1 z1 (fun es ρ2 z2 => sp (d :: es) z2 (fun r z3 => R r ρ2 z3) (fun C ns es z3 => RX C ns es ρ2 z3)) RX) RX
def dMeth0 (C : Addr) (m : Str) (sp : PSp) (to : DX D) (t : DX (List D)) : DX D := fun ρ z R RX => to ρ z (fun d ρ1 z1 => (∃ ns ds, d = .ins C ns ds ∧ m ∉ ns) ∧ t ρ1 z1 (fun es ρ2 z2 => sp (d :: es) z2 (fun r z3 => R r ρ2 z3) noP) RX) RX
theorem zip_lookup_none {α : Type} {m : Str} : ∀ {ns : List Str} {vs : List α}, m ∉ ns → (ns.zip vs).lookup m = none
  | [], _, _ => by simp
  | _ :: _, [], _ => by simp
  | n :: ns, v :: vs, h => by
    rw [List.zip_cons_cons, List.lookup_cons]
    have : (m == n) = false := by
      rw [beq_eq_false_iff_ne]
      intro q
      exact h (by rw [q]; exact List.mem_cons_self)
    rw [this]
    exact zip_lookup_none fun q => h (List.mem_cons_of_mem _ q)
theorem UG.meth {K : PySem.W.Frag} {to : DX D} {t : DX (List D)} {σ : L2.St} {H : Hp} {Q : VK} (h : UG K W (relE K) (dMeth C m sp to t) σ H Q) : tMethE C m (lift K sp) (WE W) (UG K W (relE K) to) (UG K W (relEs K) t) σ H Q := by
  obtain ⟨M, ρ, z, O, R, RX, w, h, x, k⟩ := h
  refine ⟨M, ρ, z, O, _, RX, w, h, x, fun d ρ1 z1 v H1 O1 ⟨⟨ns, ds, ed, hm⟩, h1⟩ g1 w1 r1 => ?_⟩
  have r1' := r1
  rw [ed] at r1'
  obtain ⟨a, dx, vs, rfl, q1, q2, q3⟩ := RepP.ins (z := z1) (.inl r1')
  exact ⟨a, dx, _, rfl, q1, zip_lookup_none hm, M, ρ1, z1, O1, _, RX, w1, h1, x.after g1.toGo, fun es ρ2 z2 ws H2 O2 h2 g2 w2 r2 =>
    lift_at w2 (.cons (Rep.mono g2.ext _ _ r1) r2) h2 (fun d z' v H' hd g w r => k d ρ2 z' v H' O2 hd (g1.trans (g2.trans g)) w r) (x.after (g1.trans g2).toGo)⟩
theorem UG.meth0 {K : PySem.W.Frag} {to : DX D} {t : DX (List D)} {σ : L2.St} {H : Hp} {Q : VK} {E : L2.St → XK} (h : UG K W (relE K) (dMeth0 C m sp to t) σ H Q) : tMethE C m (lift K sp) E (UG K W (relE K) to) (UG K W (relEs K) t) σ H Q := by
  obtain ⟨M, ρ, z, O, R, RX, w, h, x, k⟩ := h
  refine ⟨M, ρ, z, O, _, RX, w, h, x, fun d ρ1 z1 v H1 O1 ⟨⟨ns, ds, ed, hm⟩, h1⟩ g1 w1 r1 => ?_⟩
  have r1' := r1
  rw [ed] at r1'
  obtain ⟨a, dx, vs, rfl, q1, q2, q3⟩ := RepP.ins (z := z1) (.inl r1')
  exact ⟨a, dx, _, rfl, q1, zip_lookup_none hm, M, ρ1, z1, O1, _, RX, w1, h1, x.after g1.toGo, fun es ρ2 z2 ws H2 O2 h2 g2 w2 r2 =>
    lift_at0 w2 (.cons (Rep.mono g2.ext _ _ r1) r2) h2 (fun d z' v H' hd g w r => k d ρ2 z' v H' O2 hd (g1.trans (g2.trans g)) w r)⟩
variable {pl : Sem Bool}
theorem Method.dE {to : DX D} {t : DX (List D)} (M : Method X.prog X.w X.K X.mg X.base CX k C m D' ps (lift X.K sp)) (he : DE X W o to) (hr : Room j X.A) (hg : X.A.guards = some []) (hx : ∀ σ, PassesAt CX X σ (WE W σ)) (ha : DAs X W (e :: es) t) (hj : k ≤ j := by decide)
    (hst : starEach (e :: es) X.env = (false, eval e X.env) :: starEach es X.env := by rfl) (hpl : (backTo pos (starEach es X.env)).any (·.1) = false := by rfl)
    (ht : eval (.Call (.Attribute o m apos) (e :: es) [] pos) X.env = (do
      let ov ← eval o X.env
      standAt apos.atName
      let (f, first) ← holding [ov] (getMethod ov m pl)
      callWith pos f first (backTo pos (starEach (e :: es) X.env)) (backToKw pos (keywordEach [] X.env))) := by rfl) :
    DE X W (.Call (.Attribute o m apos) (e :: es) [] pos) (dMeth C m sp to t) := pe_to (M.methE he hr hg hx ha hj hst hpl ht) fun _ _ _ h => h.meth
theorem Method.d0 {to : DX D} {t : DX (List D)} {E : L2.St → XK} (M : Method X.prog X.w X.K X.mg X.base CX k C m D' ps (lift X.K sp)) (he : DE X W o to) (hr : Room j X.A) (hg : X.A.guards = some []) (hx : ∀ σ, PassesAt CX X σ (E σ)) (ha : DAs X W (e :: es) t) (hj : k ≤ j := by decide)
    (hst : starEach (e :: es) X.env = (false, eval e X.env) :: starEach es X.env := by rfl) (hpl : (backTo pos (starEach es X.env)).any (·.1) = false := by rfl)
    (ht : eval (.Call (.Attribute o m apos) (e :: es) [] pos) X.env = (do
      let ov ← eval o X.env
      standAt apos.atName
      let (f, first) ← holding [ov] (getMethod ov m pl)
      callWith pos f first (backTo pos (starEach (e :: es) X.env)) (backToKw pos (keywordEach [] X.env))) := by rfl) :
    DE X W (.Call (.Attribute o m apos) (e :: es) [] pos) (dMeth0 C m sp to t) := pe_to (M.methE he hr hg hx ha hj hst hpl ht) fun _ _ _ h => h.meth0
def dMethKw (C : Addr) (m : Str) (n mm : Nat) (gD : List D → List D → List D) (sp : PSp) (to : DX D) (t tk : DX (List D)) : DX D := fun ρ z R RX => to ρ z (fun d ρ1 z1 => (∃ ns ds, d = .ins C ns ds ∧ m ∉ ns) ∧ t ρ1 z1 (fun es ρ2 z2 => tk ρ2 z2 (fun fs ρ3 z3 => es.length = n ∧ fs.length = mm ∧
  sp (gD (d :: es) fs) z3 (fun r z4 => R r ρ3 z4) noP) RX) RX) RX
theorem UG.methKw {K : PySem.W.Frag} {to : DX D} {t tk : DX (List D)} {nn mm : Nat} {σ : L2.St} {H : Hp} {Q : VK} {E : L2.St → XK} (kd : KwD (nn + 1) mm gV gD) (h : UG K W (relE K) (dMethKw C m nn mm gD sp to t tk) σ H Q) :
    tMethKw C m nn mm (lift K sp) gV E (UG K W (relE K) to) (UG K W (relEs K) t) (UG K W (relEs K) tk) σ H Q := by
  obtain ⟨M, ρ, z, O, R, RX, w, h, x, k⟩ := h
  refine ⟨M, ρ, z, O, _, RX, w, h, x, fun d ρ1 z1 v H1 O1 ⟨⟨ns, ds, ed, hm⟩, h1⟩ g1 w1 r1 => ?_⟩
  have r1' := r1
  rw [ed] at r1'
  obtain ⟨a, dx, vs, rfl, q1, q2, q3⟩ := RepP.ins (z := z1) (.inl r1')
  exact ⟨a, dx, _, rfl, q1, zip_lookup_none hm, M, ρ1, z1, O1, _, RX, w1, h1, x.after g1.toGo, fun es ρ2 z2 ws H2 O2 h2 g2 w2 r2 => ⟨M, ρ2, z2, O2, _, RX, w2, h2, x.after (g1.trans g2).toGo, fun fs ρ3 z3 us H3 O3 ⟨l1, l2, h3⟩ g3 w3 r3 =>
    ⟨by rw [← Reps.length r2]; exact l1, by rw [← Reps.length r3]; exact l2, lift_at0 w3 (kd K _ _ (d :: es) fs _ us (by rw [List.length_cons, l1]) l2 (.cons (Rep.mono (g2.trans g3).ext _ _ r1) (Reps.mono g3.ext _ _ r2)) r3) h3 (fun d z' v H' hd g w r => k d ρ3 z' v H' O3 hd (g1.trans (g2.trans (g3.trans g))) w r)⟩⟩⟩
theorem Method.dkw {to : DX D} {t tk : DX (List D)} {E : L2.St → XK} (M : Method X.prog X.w X.K X.mg X.base CX k C m D' ps (lift X.K sp)) (kd : KwD (n + 1) ks.length gV gD) (hb : ∀ (f : Addr) (fd : FuncData), D' f fd → KwB X.K fd ps (n + 1) ks g gV) (he : DE X W o to) (hr : Room j X.A) (hg : X.A.guards = some [])
    (hx : ∀ σ, PassesAt CX X σ (E σ)) (ha : DAs X W (e :: es) t) (hkw : DKw X W kws tk) (hj : k ≤ j := by decide) (hall : (backToKw pos (keywordEach kws X.env)).all (·.1.isSome) = true := by rfl) (hks : (backToKw pos (keywordEach kws X.env)).filterMap (·.1) = ks := by rfl)
    (hst : starEach (e :: es) X.env = (false, eval e X.env) :: starEach es X.env := by rfl) (hpl : ((backTo pos (starEach (e :: es) X.env)).any (·.1) || (backToKw pos (keywordEach kws X.env)).any (·.1.isNone)) = false := by rfl)
    (ht : eval (.Call (.Attribute o m apos) (e :: es) kws pos) X.env = (do
      let ov ← eval o X.env
      standAt apos.atName
      let (f, first) ← holding [ov] (getMethod ov m pl)
      callWith pos f first (backTo pos (starEach (e :: es) X.env)) (backToKw pos (keywordEach kws X.env))) := by rfl) :
    DE X W (.Call (.Attribute o m apos) (e :: es) kws pos) (dMethKw C m n ks.length gD sp to t tk) := pe_to (M.methKw hb he hr hg hx ha hkw hj hall hks hst hpl ht) fun _ _ _ h => UG.methKw kd h
/-! ### own len, str, repr, ==, f'..' -/
def dOne (C : Addr) (sp : PSp) (c : D → Prop) (t : DX D) : DX D := fun ρ z R RX => t ρ z (fun d ρ1 z1 => (∃ ns ds, d = .ins C ns ds) ∧ sp [d] z1 (fun r z2 => c r ∧ R r ρ1 z2) noP) RX
def lenOk : D → Prop
  | .int n => 0 ≤ n ∧ n < 2 ^ 63
  | _ => False
def isStr : D → Prop
  | .str _ => True
  | _ => False
theorem UG.one1 {K : PySem.W.Frag} {c : D → Prop} {t : DX D} {σ : L2.St} {H : Hp} {Q : VK} (h : UG K W (relE K) (dOne C sp c t) σ H Q) :
    tCons (UG K W (relE K) t) tNil σ H fun vs H1 => ∃ a dx fs, vs = [.ref a] ∧ H1 a = some (.ins C dx fs) ∧ lift K sp [.ref a] H1 (fun v H' => ∃ d N, c d ∧ Rep K N H' d v ∧ Q v H') E0 := by
  obtain ⟨M, ρ, z, O, R, RX, w, h, x, k⟩ := h
  refine ⟨M, ρ, z, O, _, RX, w, h, x, fun d ρ1 z1 v H1 O1 ⟨⟨ns, ds, ed⟩, h1⟩ g1 w1 r1 => ?_⟩
  have r1' := r1
  rw [ed] at r1'
  obtain ⟨a, dx, vs, rfl, q1, q2, q3⟩ := RepP.ins (z := z1) (.inl r1')
  exact ⟨a, dx, _, rfl, q1, lift_at0 (R := fun d ρ z => c d ∧ R d ρ z) w1 (.cons r1 .nil) h1 fun d z' v H' ⟨hc, hd⟩ g w r => ⟨d, _, hc, r, k d ρ1 z' v H' O1 hd (g1.trans g) w r⟩⟩
theorem lift_str {K : PySem.W.Frag} {vs : List V} {H : Hp} {Q : VK} {E : XK} (q3 : lift K sp vs H (fun v H' => ∃ d N, isStr d ∧ Rep K N H' d v ∧ Q v H') E) : lift K sp vs H (fun v H' => ∃ z : Str, v = .str z ∧ Q (.str z) H') E := by
  unfold lift at q3 ⊢
  obtain ⟨M1, ds, z1, R1, RX1, p1, p2, p3, p4, p5, p6, p7⟩ := q3
  refine ⟨M1, ds, z1, R1, RX1, p1, p2, p3, p4, p5, fun d z' v H' hd f r => ?_, p7⟩
  obtain ⟨d, N, hc, r, hq⟩ := p6 d z' v H' hd f r
  cases d with
  | str i => obtain rfl := RepP.str (z := z') (.inl r); exact ⟨i, rfl, hq⟩
  | _ => exact hc.elim
theorem Method.dRepr {t : DX D} (M : Method X.prog X.w X.K X.mg X.base CX0 k C "__repr__" D' ps (lift X.K sp)) (hr : Room j X.A) (hg : X.A.guards = some []) (hG : Gl X "repr") (hm : X.mg "repr" = none) (he : DE X W e t) (hj : k + 1 ≤ j := by decide)
    (hs : starEach [e] X.env = (false, eval e X.env) :: starEach [] X.env := by rfl) : DE X W (.Call (.Name "repr" p) [e] [] pos) (dOne C sp isStr t) := pe_to (pe_callB (M.repr hr hg hj) hG hm (by decide +kernel) (pa_cons he pa_nil hs) (by decide) (by decide) hs (by rfl)) fun σ H Q h => by
  obtain ⟨M, ρ, z, O, R, RX, w, h1, x, k⟩ := h.one1
  refine ⟨M, ρ, z, O, R, RX, w, h1, x, fun d ρ' z' v H' O' hd g w r => ?_⟩
  obtain ⟨a, dx, fs, q1, q2, q3⟩ := k d ρ' z' v H' O' hd g w r
  exact ⟨a, dx, fs, q1, q2, lift_str q3⟩
/-- a part of an f-string -/
def dFmtO (C : Addr) (sp : PSp) (t : DX D) : DX Str := fun ρ z R RX => t ρ z (fun d ρ1 z1 => (∃ ns ds, d = .ins C ns ds) ∧ sp [d] z1 (fun r z2 => match r with | .str y => R y ρ1 z2 | _ => False) noP) RX
theorem Method.dFmt {t : DX D} (M : Method X.prog X.w X.K X.mg X.base CX0 k C "__str__" D' ps (lift X.K sp)) (F : Fmt X.K C) (hr : Room j X.A) (hg : X.A.guards = some []) (he : DE X W e t) (hj : k + 1 ≤ j := by decide) : DF X W (.FormattedValue e (-1) none pos) (dFmtO C sp t) :=
  pe_to (M.fmt F.fm F.hm he hr hg hj) fun σ H Q h => by
  obtain ⟨M, ρ, z, O, R, RX, w, h, x, k⟩ := h
  refine ⟨M, ρ, z, O, _, RX, w, h, x, fun d ρ1 z1 v H1 O1 ⟨⟨ns, ds, ed⟩, h1⟩ g1 w1 r1 => ?_⟩
  have r1' := r1
  rw [ed] at r1'
  obtain ⟨a, dx, vs, rfl, q1, q2, q3⟩ := RepP.ins (z := z1) (.inl r1')
  refine ⟨a, dx, _, rfl, q1, lift_at0 (R := fun d ρ z => match d with | .str y => R y ρ z | _ => False) w1 (.cons r1 .nil) h1 fun d z' v H' hd g w r => ?_⟩
  cases d with
  | str y => obtain rfl := RepP.str (z := z') (.inl r); exact ⟨y, rfl, k y ρ1 z' _ H' O1 hd (g1.trans g) w rfl⟩
  | _ => exact hd.elim
/-- o == x, o != x by the class's own == -/
def dEqO (K : PySem.W.Frag) (C : Addr) (sp : PSp) (f : Bool → Bool) (ta tb : DX D) : DX D := fun ρ z R RX => ta ρ z (fun d1 ρ1 z1 => tb ρ1 z1 (fun d2 ρ2 z2 => (∃ ns ds, d1 = .ins C ns ds) ∧ (∃ t, tyD K d2 t ∧ PySem.W.notFirst K C t = true) ∧
  sp [d1, d2] z2 (fun r z3 => match r with | .bl b => R (.bl (f b)) ρ2 z3 | _ => False) noP) RX) RX
theorem UG.eqO {K : PySem.W.Frag} {f : Bool → Bool} {ta tb : DX D} {σ : L2.St} {H : Hp} {Q : VK} (h : UG K W (relE K) (dEqO K C sp f ta tb) σ H Q) :
    tOp (fun x y H Q => ∃ a dx fs t, x = .ref a ∧ H a = some (.ins C dx fs) ∧ TyX K H y t ∧ PySem.W.notFirst K C t = true ∧ lift K sp [x, y] H (fun v H' => ∃ b : Bool, v = .bl b ∧ Q (.bl (f b)) H') E0) (UG K W (relE K) ta) (UG K W (relE K) tb) σ H Q := by
  obtain ⟨M, ρ, z, O, R, RX, w, h, x, k⟩ := h
  refine ⟨M, ρ, z, O, _, RX, w, h, x, fun d1 ρ1 z1 v1 H1 O1 h1 g1 w1 r1 => ?_⟩
  refine ⟨M, ρ1, z1, O1, _, RX, w1, h1, x.after g1.toGo, fun d2 ρ2 z2 v2 H2 O2 ⟨⟨ns, ds, ed⟩, ⟨t, ht, hn⟩, h2⟩ g2 w2 r2 => ?_⟩
  have r1' := Rep.mono g2.ext _ _ r1
  have r1'' := r1'
  rw [ed] at r1'
  obtain ⟨a, dx, vs, rfl, q1, q2, q3⟩ := RepP.ins (z := z2) (.inl r1')
  refine ⟨a, dx, _, t, rfl, q1, tyX_of (z := z2) (.inl r2) ht, hn, lift_at0 (R := fun d ρ z => match d with | .bl b => R (.bl (f b)) ρ z | _ => False) w2 (.cons r1'' (.cons r2 .nil)) h2 fun d z' v H' hd g w r => ?_⟩
  cases d with
  | bl y => obtain rfl := RepP.bl (z := z') (.inl r); exact ⟨y, rfl, k _ ρ2 z' _ H' O2 hd (g1.trans (g2.trans g)) w .b⟩
  | _ => exact hd.elim
theorem Method.dEq {ta tb : DX D} (M : Method X.prog X.w X.K X.mg X.base CX0 k C "__eq__" D' ps (lift X.K sp)) (hr : Room j X.A) (hg : X.A.guards = some []) (ha : DE X W a ta) (hb : DE X W b tb) (hj : k ≤ j := by decide) : DE X W (.Compare a [.Eq] [b] pos) (dEqO X.K C sp id ta tb) :=
  pe_to (pe_cmpR (Method.eq (o := .Eq) M (fun _ _ => rfl) hr hg hj) ha hb (nomark _)) fun _ _ _ h => h.eqO
theorem Method.dNe {ta tb : DX D} (M : Method X.prog X.w X.K X.mg X.base CX0 k C "__eq__" D' ps (lift X.K sp)) (N : NoNe X.K C) (hr : Room j X.A) (hg : X.A.guards = some []) (ha : DE X W a ta) (hb : DE X W b tb) (hj : k + 1 ≤ j := by decide) : DE X W (.Compare a [.NotEq] [b] pos) (dEqO X.K C sp not ta tb) :=
  pe_to (pe_cmpR (Method.ne M N hr hg hj) ha hb (nomark _)) fun _ _ _ h => h.eqO
theorem Method.tEq {ta tb : DX D} (M : Method X.prog X.w X.K X.mg X.base CX0 k C "__eq__" D' ps (lift X.K sp)) (hr : Room j X.A) (hg : X.A.guards = some []) (ha : DE X W a ta) (hb : DE X W b tb) (hj : k ≤ j := by decide) : DT X W (.Compare a [.Eq] [b] pos) (dTest (dEqO X.K C sp id ta tb)) :=
  pt_to (pt_cmpR (Method.eq (o := .Eq) M (fun _ _ => rfl) hr hg hj) ha hb (nomark _)) fun _ _ _ h => h.test.eqO
theorem Method.tNe {ta tb : DX D} (M : Method X.prog X.w X.K X.mg X.base CX0 k C "__eq__" D' ps (lift X.K sp)) (N : NoNe X.K C) (hr : Room j X.A) (hg : X.A.guards = some []) (ha : DE X W a ta) (hb : DE X W b tb) (hj : k + 1 ≤ j := by decide) : DT X W (.Compare a [.NotEq] [b] pos) (dTest (dEqO X.K C sp not ta tb)) :=
  pt_to (pt_cmpR (Method.ne M N hr hg hj) ha hb (nomark _)) fun _ _ _ h => h.test.eqO
/-- x == o, x of a built-in kind -/
def plainD : D → Prop
  | .str _ | .int _ | .bl _ | .non | .tup _ | .lst _ => True
  | _ => False
def dReqO (C : Addr) (sp : PSp) (ta tb : DX D) : DX D := fun ρ z R RX => ta ρ z (fun d1 ρ1 z1 => tb ρ1 z1 (fun d2 ρ2 z2 => (∃ ns ds, d2 = .ins C ns ds) ∧ plainD d1 ∧
  sp [d2, d1] z2 (fun r z3 => match r with | .bl b => R (.bl b) ρ2 z3 | _ => False) noP) RX) RX
end
end Lay

set_option Elab.async false
set_option linter.all false
set_option maxRecDepth 100000
set_option maxHeartbeats 2000000
namespace Lay
open PySem PySem.Spec PyProof.Rows L2
/-! ### makers -/
abbrev ISp := List D → Z → (List Str → List D → Z → Prop) → PX → Prop
structure FinI (K : PySem.W.Frag) (M : Addr → Prop) (x : Addr) (H : Hp) (z : Z) (H' : Hp) (z' : Z) : Prop where
  pot : PotOk K (NN (more M x) z' O0) H' z'
  pm : ∀ a, z'.has a → ¬ M a ∧ a ≠ x
  zp : ∀ a, z'.has a → z.has a ∨ H a = none
  fx : ∀ a o, H a = some o → ¬ z.has a → a ≠ x → H' a = some o
  al : ∀ a, H a ≠ none → H' a ≠ none
@[irreducible] def liftI (K : PySem.W.Frag) (C : Addr) (isp : ISp) : Sp := fun vs H Q E => ∃ x dx us M ds z R RX, vs = .ref x :: us ∧ H x = some (.ins C dx []) ∧ (∀ a, M a → H a ≠ none) ∧ ¬ M x ∧ ¬ z.has x ∧ PotOk K (NN (more M x) z O0) H z ∧ (∀ a, z.has a → ¬ M a) ∧
  Reps K (NN (more M x) z O0) H ds us ∧ isp ds z R RX ∧
  (∀ ns es z' ws dx' H', R ns es z' → FinI K M x H z H' z' → H' x = some (.ins C dx' (ns.zip ws)) → ns.length = es.length → Reps K (NN (more M x) z' O0) H' es ws → Q .non H') ∧
  (∀ Cx ns es z' od H', RX Cx ns es z' → FinI K M x H z H' z' → ExAt K (NN (more M x) z' O0) H' od ns es → E (.ref Cx) od H')
theorem FinI.fin {K : PySem.W.Frag} {M : Addr → Prop} {x : Addr} {H H1 H' : Hp} {z z' : Z} (f : FinI K M x H1 z H' z') (s : Same H H1) (hx : H x = none) : Fin K M H z H' z' := by
  have al : ∀ a, H a ≠ none → H1 a ≠ none := fun a h => by
    cases e : H a with
    | none => exact absurd e h
    | some o => rw [s a o e]; exact Option.some_ne_none _
  refine ⟨f.pot.to ⟨fun a o h _ => h, fun a h => .inl h.less⟩ fun _ _ _ q => q, fun a h => (f.pm a h).1, fun a h => ?_, fun a o h n => f.fx a o (s a o h) n (ne_of_none h hx), fun a h => f.al a (al a h)⟩
  rcases f.zp a h with q | q
  · exact .inl q
  · exact .inr (Classical.byContradiction fun n => al a n q)
section
variable {X : Cx} {W : WX} {e o a b : Expr} {es : List Expr} {pos p apos : Pos} {CX : CXT} {j k n : Nat} {x m : Str} {st : Stmt} {ps ks : List Str} {isp : ISp} {kws : List Keyword} {C : Addr} {D' : Addr → FuncData → Prop}
  {g : List Value → List Value → List Value} {gV : List V → List V → List V} {gD : List D → List D → List D}
/-- the arguments' order, told of the list without the new one -/
def dMake (C : Addr) (isp : ISp) (t : DX (List D)) : DX D := fun ρ z R RX => t ρ z (fun ds ρ' z' => isp ds z' (fun ns es z2 => R (.ins C ns es) ρ' z2) (fun Cx ns es z2 => RX Cx ns es ρ' z2)) RX
def dMake0 (C : Addr) (isp : ISp) (t : DX (List D)) : DX D := fun ρ z R RX => t ρ z (fun ds ρ' z' => isp ds z' (fun ns es z2 => R (.ins C ns es) ρ' z2) noP) RX
theorem make_at {K : PySem.W.Frag} {M : Addr → Prop} {H : Hp} {σ : L2.St} {ρ : List Sl} {z : Z} {O : Nat → Option Addr} {R : KD'} {ds : List D} {vs : List V} {Q : VK} {E : XK} (w : Wd K M H σ ρ z O) (r : Reps K (NN M z O) H ds vs) {PXr : PX}
    (h : isp ds z (fun ns es z2 => R (.ins C ns es) ρ z2) PXr) (k : ∀ d z' v H', R d ρ z' → GoE M H z O H' z' O → Wd K M H' σ ρ z' O → Rep K (NN M z' O) H' d v → Q v H')
    (hx : ∀ Cx ns es z' od H', PXr Cx ns es z' → GoE M H z O H' z' O → Wd K M H' σ ρ z' O → ExAt K (NN M z' O) H' od ns es → E (.ref Cx) od H') :
    ∀ x dx, H x = none → H dx = none → dx ≠ x → liftI K C isp (.ref x :: vs) (upd (upd H dx (.own x)) x (.ins C dx [])) (fun v H2 => v = .non ∧ Q (.ref x) H2) E := by
  intro x dx n1 n2 n3
  have n1' : upd H dx (.own x) x = none := by rw [upd_ne (Ne.symm n3)]; exact n1
  have sm : Same H (upd (upd H dx (.own x)) x (.ins C dx [])) := (same_new n2).trans (same_new n1')
  generalize hH1 : upd (upd H dx (.own x)) x (.ins C dx []) = H1 at sm
  have ex : H1 x = some (.ins C dx []) := by rw [← hH1, upd_same]
  have hn : ∀ a, NN M z O a → a ≠ x := fun a h q => w.alloc a h (by rw [q]; exact n1)
  obtain ⟨w1, g1⟩ := w.grow sm
  have ext1 : Ext (NN M z O) H (NN (more (hid M O) x) z O0) H1 := ⟨fun a o h _ => sm a o h, fun a h => by
    rcases h.more with q | q
    · exact .inl (NN.hid.mp q)
    · exact .inr (by rw [q]; exact n1)⟩
  have exb : ∀ {z' : Z} {H' : Hp}, FinI K (hid M O) x H1 z H' z' → Ext (NN (more (hid M O) x) z' O0) H' (NN M z' O) H' := fun f => ⟨fun a o h _ => h, fun a h => .inl (NN.hid.mpr h).less⟩
  unfold liftI
  refine ⟨x, dx, vs, hid M O, ds, z, _, _, rfl, ex, fun a h => ?_, fun h => ?_, fun h => hn x (.inr (.inl h)) rfl, w.pot.to ext1 fun a o _ q => sm a o q, w.pmh, Reps.mono ext1 _ _ r, h, fun ns es z' ws dx' H' hd f e l r => ⟨rfl, ?_⟩, fun Cx ns es z' od H' hd f e => ?_⟩
  · exact w1.alh a h
  · exact hn x (by rcases h with h | h; exact .inl h; exact .inr (.inr h)) rfl
  · obtain ⟨w', g'⟩ := w.fin (f.fin sm n1)
    refine k _ z' _ H' hd g' w' ?_
    unfold relE at *
    rw [Rep]
    refine ⟨x, dx', ws, rfl, ?_, e, l, Reps.mono (exb f) _ _ r⟩
    rintro (q | q | q)
    · exact hn x (.inl q) rfl
    · exact (f.pm x q).2 rfl
    · exact hn x (.inr (.inr q)) rfl
  · obtain ⟨w', g'⟩ := w.fin (f.fin sm n1)
    exact hx Cx ns es z' od H' hd g' w' (e.mono (exb f))
theorem Maker.dE {t : DX (List D)} (M : Maker X.prog X.w X.K X.mg X.base CX k x C D' ps (liftI X.K C isp)) (hG : Gl X x) (hr : Room j X.A) (hg : X.A.guards = some []) (hx : ∀ σ, PassesAt CX X σ (WE W σ)) (ha : DAs X W (e :: es) t) (hj : k + 1 ≤ j := by decide)
    (hdb : (x == ("__debug__" : Str)) = false := by decide) (he : starEach (e :: es) X.env = (false, eval e X.env) :: starEach es X.env := by rfl) (hpl : (backTo pos (starEach es X.env)).any (·.1) = false := by rfl) :
    DE X W (.Call (.Name x p) (e :: es) [] pos) (dMake C isp t) := pe_to (M.makeE hG hr hg hx ha hj hdb he hpl) fun σ H Q ⟨M, ρ, z, O, R, RX, w, h, x, k⟩ =>
  ⟨M, ρ, z, O, _, RX, w, h, x, fun ds ρ1 z1 vs H1 O1 h1 g1 w1 r1 => make_at w1 r1 h1 (fun d z' v H' hd g w r => k d ρ1 z' v H' O1 hd (g1.trans g) w r) fun Cx ns es z' od H' hd g w ex => x Cx ns es ρ1 z' od H' O1 σ hd (g1.trans g).toGo w ex⟩
theorem Maker.d0 {t : DX (List D)} {E : L2.St → XK} (M : Maker X.prog X.w X.K X.mg X.base CX k x C D' ps (liftI X.K C isp)) (hG : Gl X x) (hr : Room j X.A) (hg : X.A.guards = some []) (hx : ∀ σ, PassesAt CX X σ (E σ)) (ha : DAs X W (e :: es) t) (hj : k + 1 ≤ j := by decide)
    (hdb : (x == ("__debug__" : Str)) = false := by decide) (he : starEach (e :: es) X.env = (false, eval e X.env) :: starEach es X.env := by rfl) (hpl : (backTo pos (starEach es X.env)).any (·.1) = false := by rfl) :
    DE X W (.Call (.Name x p) (e :: es) [] pos) (dMake0 C isp t) := pe_to (M.makeE hG hr hg hx ha hj hdb he hpl) fun σ H Q ⟨M, ρ, z, O, R, RX, w, h, x, k⟩ =>
  ⟨M, ρ, z, O, _, RX, w, h, x, fun ds ρ1 z1 vs H1 O1 h1 g1 w1 r1 => make_at w1 r1 h1 (fun d z' v H' hd g w r => k d ρ1 z' v H' O1 hd (g1.trans g) w r) fun Cx ns es z' od H' hd _ _ _ => hd.elim⟩
/-- gV over lists that begin with the new one -/
def KwM (n m : Nat) (gV : List V → List V → List V) (gD : List D → List D → List D) : Prop := ∀ (x : V) (vs zs : List V), vs.length = n → zs.length = m → ∃ us, gV (x :: vs) zs = x :: us ∧
  ∀ (K : PySem.W.Frag) (N : Addr → Prop) (H : Hp) (ds es : List D), Reps K N H ds vs → Reps K N H es zs → Reps K N H (gD ds es) us
def dMakeKw (C : Addr) (n m : Nat) (gD : List D → List D → List D) (isp : ISp) (t tk : DX (List D)) : DX D := fun ρ z R RX => t ρ z (fun ds ρ1 z1 => tk ρ1 z1 (fun es ρ2 z2 => ds.length = n ∧ es.length = m ∧
  isp (gD ds es) z2 (fun ns es z3 => R (.ins C ns es) ρ2 z3) (fun Cx ns es z3 => RX Cx ns es ρ2 z3)) RX) RX
def dMakeKw0 (C : Addr) (n m : Nat) (gD : List D → List D → List D) (isp : ISp) (t tk : DX (List D)) : DX D := fun ρ z R RX => t ρ z (fun ds ρ1 z1 => tk ρ1 z1 (fun es ρ2 z2 => ds.length = n ∧ es.length = m ∧
  isp (gD ds es) z2 (fun ns es z3 => R (.ins C ns es) ρ2 z3) noP) RX) RX
theorem UG.makeKw {K : PySem.W.Frag} {t tk : DX (List D)} {nn mm : Nat} {σ : L2.St} {H : Hp} {Q : VK} (kd : KwM nn mm gV gD) (h : UG K W (relE K) (dMakeKw C nn mm gD isp t tk) σ H Q) : tMakeKw C nn mm (liftI K C isp) gV (WE W) (UG K W (relEs K) t) (UG K W (relEs K) tk) σ H Q := by
  obtain ⟨M, ρ, z, O, R, RX, w, h, x, k⟩ := h
  refine ⟨M, ρ, z, O, _, RX, w, h, x, fun ds ρ1 z1 vs H1 O1 h1 g1 w1 r1 => ⟨M, ρ1, z1, O1, _, RX, w1, h1, x.after g1.toGo, fun es ρ2 z2 ws H2 O2 ⟨l1, l2, h2⟩ g2 w2 r2 => ?_⟩⟩
  have m1 : vs.length = nn := by rw [← Reps.length r1]; exact l1
  have m2 : ws.length = mm := by rw [← Reps.length r2]; exact l2
  refine ⟨m1, m2, fun xx dx q1 q2 q3 => ?_⟩
  obtain ⟨us, e1, e2⟩ := kd (.ref xx) vs ws m1 m2
  rw [e1]
  exact make_at w2 (e2 K _ _ ds es (Reps.mono g2.ext _ _ r1) r2) h2 (fun d z' v H' hd g w r => k d ρ2 z' v H' O2 hd (g1.trans (g2.trans g)) w r) (fun Cx ns es z' od H' hd g w ex => x Cx ns es ρ2 z' od H' O2 σ hd (g1.trans (g2.trans g)).toGo w ex) xx dx q1 q2 q3
theorem UG.makeKw0 {K : PySem.W.Frag} {t tk : DX (List D)} {nn mm : Nat} {σ : L2.St} {H : Hp} {Q : VK} {E : L2.St → XK} (kd : KwM nn mm gV gD) (h : UG K W (relE K) (dMakeKw0 C nn mm gD isp t tk) σ H Q) : tMakeKw C nn mm (liftI K C isp) gV E (UG K W (relEs K) t) (UG K W (relEs K) tk) σ H Q := by
  obtain ⟨M, ρ, z, O, R, RX, w, h, x, k⟩ := h
  refine ⟨M, ρ, z, O, _, RX, w, h, x, fun ds ρ1 z1 vs H1 O1 h1 g1 w1 r1 => ⟨M, ρ1, z1, O1, _, RX, w1, h1, x.after g1.toGo, fun es ρ2 z2 ws H2 O2 ⟨l1, l2, h2⟩ g2 w2 r2 => ?_⟩⟩
  have m1 : vs.length = nn := by rw [← Reps.length r1]; exact l1
  have m2 : ws.length = mm := by rw [← Reps.length r2]; exact l2
  refine ⟨m1, m2, fun xx dx q1 q2 q3 => ?_⟩
  obtain ⟨us, e1, e2⟩ := kd (.ref xx) vs ws m1 m2
  rw [e1]
  exact make_at w2 (e2 K _ _ ds es (Reps.mono g2.ext _ _ r1) r2) h2 (fun d z' v H' hd g w r => k d ρ2 z' v H' O2 hd (g1.trans (g2.trans g)) w r) (fun Cx ns es z' od H' hd _ _ _ => hd.elim) xx dx q1 q2 q3
theorem Maker.dkw {t tk : DX (List D)} (M : Maker X.prog X.w X.K X.mg X.base CX k x C D' ps (liftI X.K C isp)) (kd : KwM n ks.length gV gD) (hb : ∀ (f : Addr) (fd : FuncData), D' f fd → KwB X.K fd ps (n + 1) ks g gV) (hG : Gl X x) (hr : Room j X.A) (hg : X.A.guards = some [])
    (hx : ∀ σ, PassesAt CX X σ (WE W σ)) (ha : DAs X W (e :: es) t) (hkw : DKw X W kws tk) (hj : k + 1 ≤ j := by decide)
    (hall : (backToKw pos (keywordEach kws X.env)).all (·.1.isSome) = true := by rfl) (hks : (backToKw pos (keywordEach kws X.env)).filterMap (·.1) = ks := by rfl)
    (hdb : (x == ("__debug__" : Str)) = false := by decide) (he : starEach (e :: es) X.env = (false, eval e X.env) :: starEach es X.env := by rfl)
    (hpl : ((backTo pos (starEach (e :: es) X.env)).any (·.1) || (backToKw pos (keywordEach kws X.env)).any (·.1.isNone)) = false := by rfl) : DE X W (.Call (.Name x p) (e :: es) kws pos) (dMakeKw C n ks.length gD isp t tk) :=
  pe_to (M.makeKw hb hG hr hg hx ha hkw hj hall hks hdb he hpl) fun _ _ _ h => h.makeKw kd
theorem Maker.dkwE {t tk : DX (List D)} {E : L2.St → XK} (M : Maker X.prog X.w X.K X.mg X.base CX k x C D' ps (liftI X.K C isp)) (kd : KwM n ks.length gV gD) (hb : ∀ (f : Addr) (fd : FuncData), D' f fd → KwB X.K fd ps (n + 1) ks g gV) (hG : Gl X x) (hr : Room j X.A) (hg : X.A.guards = some [])
    (hx : ∀ σ, PassesAt CX X σ (E σ)) (ha : DAs X W (e :: es) t) (hkw : DKw X W kws tk) (hj : k + 1 ≤ j := by decide)
    (hall : (backToKw pos (keywordEach kws X.env)).all (·.1.isSome) = true := by rfl) (hks : (backToKw pos (keywordEach kws X.env)).filterMap (·.1) = ks := by rfl)
    (hdb : (x == ("__debug__" : Str)) = false := by decide) (he : starEach (e :: es) X.env = (false, eval e X.env) :: starEach es X.env := by rfl)
    (hpl : ((backTo pos (starEach (e :: es) X.env)).any (·.1) || (backToKw pos (keywordEach kws X.env)).any (·.1.isNone)) = false := by rfl) : DE X W (.Call (.Name x p) (e :: es) kws pos) (dMakeKw0 C n ks.length gD isp t tk) :=
  pe_to (M.makeKw hb hG hr hg hx ha hkw hj hall hks hdb he hpl) fun _ _ _ h => UG.makeKw0 kd h
theorem UG.nil2 {K : PySem.W.Frag} {tk : TA} {σ : L2.St} {H : Hp} {Q : List V → List V → Hp → Prop} (h : UG K W (relEs K) dNil σ H fun vs H1 => tk σ H1 fun ws H2 => Q vs ws H2) : tk σ H fun ws H2 => Q [] ws H2 :=
  let ⟨M, ρ, z, O, R, RX, w, h, x, k⟩ := h
  k [] ρ z [] H O h .refl w Reps.nil
theorem Maker.dkw0E {tk : DX (List D)} {E : L2.St → XK} (M : Maker X.prog X.w X.K X.mg X.base CX k x C D' ps (liftI X.K C isp)) (kd : KwM 0 ks.length gV gD) (hb : ∀ (f : Addr) (fd : FuncData), D' f fd → KwB X.K fd ps 1 ks g gV) (hG : Gl X x) (hr : Room j X.A) (hg : X.A.guards = some [])
    (hx : ∀ σ, PassesAt CX X σ (E σ)) (hkw : DKw X W kws tk) (hj : k + 1 ≤ j := by decide)
    (hall : (backToKw pos (keywordEach kws X.env)).all (·.1.isSome) = true := by rfl) (hks : (backToKw pos (keywordEach kws X.env)).filterMap (·.1) = ks := by rfl)
    (hdb : (x == ("__debug__" : Str)) = false := by decide)
    (hpl : ((backTo pos (starEach [] X.env)).any (·.1) || (backToKw pos (keywordEach kws X.env)).any (·.1.isNone)) = false := by rfl) : DE X W (.Call (.Name x p) [] kws pos) (dMakeKw0 C 0 ks.length gD isp dNil tk) :=
  pe_to (M.makeKw0 hb hG hr hg hx hkw hj hall hks hdb hpl) fun σ H Q h => UG.nil2 (UG.makeKw0 kd h)
/-! ### raising, catching -/
def dRaise (C : Addr) (fn : List Str) (t : DX (List D)) : DTS := fun R ρ z => t ρ z (fun ds ρ' z' => ds.length = fn.length ∧ ds.length ≤ 1000 ∧ R.ex C fn ds ρ' z') R.ex
theorem ExcOk.dRaise {fn : List Str} {t : DX (List D)} {pos2 : Pos} (E : ExcOk X.prog X.w X.K X.mg X.base x C fn ps) (hc : X.calm = true) (hG : Gl X x) (hr : Room j X.A) (tk : Takes X W) (ha : DAs X W (e :: es) t) (hj : 2 ≤ j := by decide)
    (hdb : (x == ("__debug__" : Str)) = false := by decide) (he : starEach (e :: es) X.env = (false, eval e X.env) :: starEach es X.env := by rfl) (hpl : (backTo pos (starEach es X.env)).any (·.1) = false := by rfl) :
    DS X W (.Raise (some (.Call (.Name x p) (e :: es) [] pos)) none pos2) (dRaise C fn t) := ps_to (E.raise hc hG hr tk ha hj hdb he hpl) fun D σ H ⟨M, ρ, z, O, R, w, h, k⟩ => by
  refine ⟨M, ρ, z, O, _, R.ex, w, h, k.ex, fun ds ρ' z' vs H' O' ⟨l1, l2, hd⟩ g w' r => ?_⟩
  have lv := Reps.length r
  refine ⟨by rw [← lv]; exact l1, by rw [← lv]; exact l2, fun d hd' => ?_⟩
  obtain ⟨w2, g2⟩ := w'.grow (same_new (o := .xd (fn.zip vs).reverse) hd')
  refine k.ex C fn ds ρ' z' (some d) _ O' σ hd (g.trans g2).toGo w2 ⟨fun n => w'.alloc d n hd', l1.symm, vs, upd_same, Reps.mono g2.ext _ _ r⟩
/-- try: .. except c as n: .. -/
def dTry (K : PySem.W.Frag) (c : Value) (i : Nat) (body : DTS) (suite : Addr → Value → Option Addr → DTS) : DTS := fun R ρ z => body { R with ex := fun C ns ds ρ' z' => ∃ b, PySem.W.exmOne K (.ref C) c = some b ∧
  (b = true → ∀ a od, (ns ≠ [] → od ≠ none) → suite a (.ref C) od { R with nx := fun ρ2 z2 => R.nx (ρ2.set i .any) z2, bk := fun ρ2 z2 => R.bk (ρ2.set i .any) z2, ct := fun ρ2 z2 => R.ct (ρ2.set i .any) z2 } (ρ'.set i (.exc a od ns ds)) z') ∧ (b = false → R.ex C ns ds ρ' z') } ρ z
theorem Wd.setx {K : PySem.W.Frag} {M : Addr → Prop} {H : Hp} {σ : L2.St} {ρ : List Sl} {z : Z} {O : Nat → Option Addr} (w : Wd K M H σ ρ z O) (i : Nat) {a : Addr} {od : Option Addr} {ns : List Str} {ds : List D} (r : ExAt K (NN M z O) H od ns ds) :
    Wd K M H (σ.set i (some (.ref a))) (ρ.set i (.exc a od ns ds)) z (off O i) := w.setv i _ (List.length_set ..) (fun j hj => List.getElem?_set_ne (Ne.symm hj)) fun hi => by
  rw [List.getElem?_set_self (by rw [w.len]; exact hi)]
  exact ⟨rfl, rfl, r.mono ⟨fun a o q _ => q, fun a q => .inl q.off⟩⟩
theorem Wd.unset {K : PySem.W.Frag} {M : Addr → Prop} {H : Hp} {σ : L2.St} {ρ : List Sl} {z : Z} {O : Nat → Option Addr} (w : Wd K M H σ ρ z O) (i : Nat) : Wd K M H (σ.set i none) (ρ.set i .any) z (off O i) :=
  w.setv i _ (List.length_set ..) (fun j hj => List.getElem?_set_ne (Ne.symm hj)) fun _ => rfl
/-- e.f of an exception caught -/
def dXf (a : Addr) (cls : Value) (od : Option Addr) (C : Addr) (i : Nat) (f : Str) : DX D := fun ρ z R RX => match ρ[i]? with
  | some (.exc a' od' ns ds) => a' = a ∧ cls = .ref C ∧ od' = od ∧ od ≠ none ∧ ∃ d, ((ns.zip ds).reverse).lookup f = some d ∧ R d ρ z
  | _ => False
theorem lookup_reps_rev {K : PySem.W.Frag} {N : Addr → Prop} {H : Hp} {f : Str} {ns : List Str} {ds : List D} {vs : List V} {d : D} (l : ns.length = ds.length) (r : Reps K N H ds vs) (h : ((ns.zip ds).reverse).lookup f = some d) : ∃ v, ((ns.zip vs).reverse).lookup f = some v ∧ Rep K N H d v := by
  have e : ∀ {α : Type} (ys : List α), ns.length = ys.length → (ns.zip ys).reverse = ns.reverse.zip ys.reverse := fun ys hl => by
    rw [List.zip_eq_zipWith, List.zip_eq_zipWith]
    exact (List.reverse_zipWith (by exact hl))
  rw [e ds l] at h
  rw [e vs (by rw [l, r.length])]
  exact lookup_reps r.reverse h
end
/-! ### defs by their bodies -/
def startD (N : List Str) (ds : List D) : List Sl := ds.map .val ++ List.replicate (N.length - ds.length) .any
theorem Reps.beg {K : PySem.W.Frag} {N : Addr → Prop} {H : Hp} : ∀ {ds : List D} {vs : List V}, Reps K N H ds vs → ∀ (k i : Nat) (s : Sl), (ds.map Sl.val ++ List.replicate k .any)[i]? = some s → SlotOk K N H ((vs.map some ++ List.replicate k none)[i]?.join) s none
  | [], vs, r, k, i, s, h => by
    replace r : Reps K N H [] vs := r
    rw [Reps] at r; subst r
    rw [List.map_nil, List.nil_append, List.getElem?_replicate] at h
    split at h
    · cases h; rfl
    · cases h
  | d :: ds, vs, r, k, 0, s, h => by
    rw [Reps] at r
    obtain ⟨v, q, rfl, r1, r2⟩ := r
    cases h
    exact ⟨rfl, v, rfl, r1⟩
  | d :: ds, vs, r, k, i + 1, s, h => by
    rw [Reps] at r
    obtain ⟨v, q, rfl, r1, r2⟩ := r
    exact Reps.beg r2 k i s h
theorem nn0 {M : Addr → Prop} {z : Z} {O : Nat → Option Addr} {H : Hp} : Ext (NN M z O) H (NN M z O0) H := ⟨fun a o h _ => h, fun a h => .inl (by
  rcases h with h | h | ⟨i, h⟩
  · exact .inl h
  · exact .inr (.inl h)
  · cases h)⟩
theorem Go.fxOf {M : Addr → Prop} {H H' : Hp} {z z' : Z} {O' : Nat → Option Addr} (g : Go M H z O0 H' z' O') : ∀ a o, H a = some o → ¬ z.has a → H' a = some o := fun a o h n => by
  by_cases m : M a
  · exact g.km a o m h
  · refine g.st a o h fun q => ?_
    rcases q with q | q | ⟨i, q⟩
    · exact m q
    · exact n q
    · exact (nomatch q)
theorem Go.finOf {K : PySem.W.Frag} {M : Addr → Prop} {H H' : Hp} {σ : L2.St} {ρ : List Sl} {z z' : Z} {O' : Nat → Option Addr} (g : Go M H z O0 H' z' O') (w : Wd K M H' σ ρ z' O') : Fin K M H z H' z' :=
  ⟨w.pot.to nn0 fun _ _ _ q => q, w.pm, g.zp, g.fxOf, g.al⟩
section
variable {P : Program} {w : World} {K : PySem.W.Frag} {mg : Str → Option Value} {base : Heap} {k : Nat} {f : Addr} {fd : FuncData} {ps : List Str} {sp : PSp} {isp : ISp} {C : Addr} {x qual : Str} {st : Stmt} {N : List Str}
theorem Wd.beg {M : Addr → Prop} {H : Hp} {z : Z} {ds : List D} {vs : List V} (al : ∀ a, M a → H a ≠ none) (pot : PotOk K (NN M z O0) H z) (pm : ∀ a, z.has a → ¬ M a) (r : Reps K (NN M z O0) H ds vs) : Wd K M H (L2.start N vs) (startD N ds) z O0 := by
  refine ⟨?_, al, pot, pm, fun i a h => (nomatch h), fun i s h => ?_, fun i h => rfl⟩
  · unfold L2.start startD
    rw [List.length_append, List.length_append, List.length_map, List.length_map, List.length_replicate, List.length_replicate, r.length]
  · unfold startD at h
    show SlotOk _ _ _ ((vs.map some ++ List.replicate (N.length - vs.length) none)[i]?.join) s none
    rw [← r.length]
    exact r.beg _ i s h
/-- a def that lets no exception out -/
theorem dbody (F : Fun K x qual st f fd) (S : FnScope N ps (defScope st)) (ln : ∀ ds z R RX, sp ds z R RX → ds.length = ps.length)
    (hb : ∀ (cdv : Value) (A : Around) (outer : List Env) (s : Shared) (H : Hp) (E : XK), Room k (A.deeper (envOfC qual (defScope st) s.heap.objs.size f cdv)) → (A.deeper (envOfC qual (defScope st) s.heap.objs.size f cdv)).guards = some [] →
      ∃ t, DSs (cxOf CX0 P w K mg base N qual (defScope st) f cdv A outer s H E).nox W0 (defBody st) t ∧ ∀ ds z R RX, sp ds z R RX → t { nx := fun _ z' => R .non z', rt := R, ex := noX } (startD N ds) z) :
    FnG P w K mg base CX0 (k + 1) f fd ps (lift K sp) := by
  refine gbody F S (fun vs H Q E h => ?_) fun cdv A outer s H vs Q E hr hg h => ?_
  · unfold lift at h
    obtain ⟨M, ds, z, R, RX, _, _, _, r, h, _⟩ := h
    rw [← r.length]; exact ln _ _ _ _ h
  · obtain ⟨t, ht, hh⟩ := hb cdv A outer s H E hr hg
    refine ⟨_, ht, ?_⟩
    unfold lift at h
    obtain ⟨M, ds, z, R, RX, al, pot, pm, r, h, k1, k2⟩ := h
    refine ⟨M, startD N ds, z, O0, _, Wd.beg al pot pm r, hh ds z R RX h, ?_⟩
    refine ⟨fun ρ' z' σ' H' O' h g w => k1 _ z' _ H' h (g.finOf w) .n, fun _ _ _ _ _ h => h.elim, fun _ _ _ _ _ h => h.elim, fun d ρ' z' v σ' H' O' h g w r => k1 d z' v H' h (g.finOf w) (Rep.mono nn0 _ _ r), fun _ _ _ _ _ _ _ _ _ h => h.elim⟩
/-! an __init__ -/
def startI (N : List Str) (x C : Addr) (ds : List D) : List Sl := .obj x C [] [] :: (ds.map .val ++ List.replicate (N.length - (ds.length + 1)) .any)
def oneO (x : Addr) : Nat → Option Addr := fun j => if j = 0 then some x else none
theorem NN.one {M : Addr → Prop} {z : Z} {x a : Addr} : NN M z (oneO x) a ↔ NN (Lay.more M x) z O0 a := by
  constructor
  · rintro (h | h | ⟨i, h⟩)
    · exact .inl (.inl h)
    · exact .inr (.inl h)
    · unfold oneO at h
      split at h
      · cases h; exact .inl (.inr rfl)
      · cases h
  · rintro ((h | h) | h | ⟨i, h⟩)
    · exact .inl h
    · exact .inr (.inr ⟨0, by unfold oneO; rw [if_pos rfl, h]⟩)
    · exact .inr (.inl h)
    · cases h
theorem ext_one {M : Addr → Prop} {z : Z} {x : Addr} {H : Hp} : Ext (NN (more M x) z O0) H (NN M z (oneO x)) H := ⟨fun a o h _ => h, fun a h => .inl (NN.one.mp h)⟩
theorem Wd.begI {M : Addr → Prop} {H : Hp} {z : Z} {ds : List D} {vs : List V} {x dx : Addr} (hx : H x = some (.ins C dx [])) (al : ∀ a, M a → H a ≠ none) (nm : ¬ M x) (np : ¬ z.has x) (pot : PotOk K (NN (more M x) z O0) H z) (pm : ∀ a, z.has a → ¬ M a) (r : Reps K (NN (more M x) z O0) H ds vs) :
    Wd K M H (L2.start N (.ref x :: vs)) (startI N x C ds) z (oneO x) := by
  have r' := Reps.mono ext_one _ _ r
  have es : L2.start N (.ref x :: vs) = some (.ref x) :: (vs.map some ++ List.replicate (N.length - (ds.length + 1)) none) := by
    unfold L2.start
    rw [List.map_cons, List.cons_append, List.length_cons, r.length]
  refine ⟨?_, al, pot.to ext_one fun _ _ _ q => q, pm, fun i a h => ?_, fun i s h => ?_, fun i h => ?_⟩
  · rw [es]
    unfold Lay.startI
    rw [List.length_cons, List.length_cons, List.length_append, List.length_append, List.length_map, List.length_map, List.length_replicate, List.length_replicate, r.length]
  · unfold oneO at h
    split at h
    · rename_i hi
      cases h
      refine ⟨nm, np, by rw [hx]; exact Option.some_ne_none _, fun j e => ?_⟩
      unfold oneO at e
      split at e
      · rw [‹j = 0›, hi]
      · cases e
    · cases h
  · rw [es]
    cases i with
    | zero =>
      cases h
      exact ⟨x, dx, [], rfl, rfl, rfl, hx, rfl, .nil⟩
    | succ i =>
      have e : oneO x (i + 1) = none := by unfold oneO; rw [if_neg (by omega)]
      rw [e]
      exact r'.beg _ i s h
  · unfold oneO
    split
    · rename_i hi
      subst hi
      cases h
    · rfl
theorem nnI {M : Addr → Prop} {x : Addr} {z : Z} {O : Nat → Option Addr} {H : Hp} (h : ∃ i, O i = some x) : Ext (NN M z O) H (NN (more M x) z O0) H := ⟨fun a o h _ => h, fun a q => .inl (by
  rcases q with (q | q) | q | ⟨i, q⟩
  · exact .inl q
  · exact .inr (.inr (by rw [q]; exact h))
  · exact .inr (.inl q)
  · cases q)⟩
theorem Go.finI {M : Addr → Prop} {x : Addr} {H H' : Hp} {σ : L2.St} {ρ : List Sl} {z z' : Z} {O' : Nat → Option Addr} (g : Go M H z (oneO x) H' z' O') (w : Wd K M H' σ ρ z' O') (ho : ∃ i, O' i = some x) (ne : ∀ a, z'.has a → a ≠ x) : FinI K M x H z H' z' :=
  ⟨w.pot.to (nnI ho) fun _ _ _ q => q, fun a h => ⟨w.pm a h, ne a h⟩, g.zp, (fun a o h n nx => by
    by_cases m : M a
    · exact g.km a o m h
    · refine g.st a o h fun q => ?_
      rcases NN.one.mp q with (q | q) | q | ⟨i, q⟩
      · exact m q
      · exact nx q
      · exact n q
      · exact (nomatch q)), g.al⟩
theorem obj_at {M : Addr → Prop} {x : Addr} {H : Hp} {σ : L2.St} {ρ : List Sl} {z : Z} {O : Nat → Option Addr} {ns : List Str} {es : List D} (w : Wd K M H σ ρ z O) (h : ρ[0]? = some (.obj x C ns es)) :
    (∃ i, O i = some x) ∧ (∀ a, z.has a → a ≠ x) ∧ ∃ dx vs, H x = some (.ins C dx (ns.zip vs)) ∧ ns.length = es.length ∧ Reps K (NN M z O) H es vs := by
  obtain ⟨a, dx, vs, q1, rfl, q2, q3, q4, q5⟩ := w.sl 0 _ h
  exact ⟨⟨0, q1⟩, fun b hb e => (w.ow 0 a q1).2.1 (by rw [← e]; exact hb), dx, vs, q3, q4, q5⟩
theorem ibodyX (F : Fun K x qual st f fd) (S : FnScope N ps (defScope st)) (ln : ∀ ds z R RX, isp ds z R RX → ds.length + 1 = ps.length)
    (hb : ∀ (cdv : Value) (A : Around) (outer : List Env) (s : Shared) (H : Hp) (E : XK), Room k (A.deeper (envOfC qual (defScope st) s.heap.objs.size f cdv)) → (A.deeper (envOfC qual (defScope st) s.heap.objs.size f cdv)).guards = some [] →
      ∃ t, DSs (cxOf (L2.CX P w) P w K mg base N qual (defScope st) f cdv A outer s H E) (fun cls d _ H => E cls d H) (defBody st) t ∧
        ∀ ds z R RX (x : Addr), isp ds z R RX → t { nx := fun ρ z' => ∃ ns es, ρ[0]? = some (.obj x C ns es) ∧ R ns es z', rt := fun _ _ => False, ex := fun Cx ns es ρ z' => (∃ ns' es', ρ[0]? = some (.obj x C ns' es')) ∧ RX Cx ns es z' } (startI N x C ds) z) :
    FnG P w K mg base (L2.CX P w) (k + 1) f fd ps (liftI K C isp) := by
  refine gbodyX F S (fun vs H Q E h => ?_) fun cdv A outer s H vs Q E hr hg h => ?_
  · unfold liftI at h
    obtain ⟨x, dx, us, M, ds, z, R, RX, rfl, _, _, _, _, _, _, r, h, _⟩ := h
    rw [List.length_cons, ← r.length]; exact ln _ _ _ _ h
  · obtain ⟨t, ht, hh⟩ := hb cdv A outer s H E hr hg
    refine ⟨_, ht, ?_⟩
    unfold liftI at h
    obtain ⟨x, dx, us, M, ds, z, R, RX, rfl, hx, al, nm, np, pot, pm, r, h, k1, k2⟩ := h
    refine ⟨M, startI N x C ds, z, oneO x, _, Wd.begI hx al nm np pot pm r, hh ds z R RX x h, ?_⟩
    refine ⟨fun ρ' z' σ' H' O' ⟨ns, es, e, h⟩ g w => ?_, fun _ _ _ _ _ h => h.elim, fun _ _ _ _ _ h => h.elim, fun _ _ _ _ _ _ _ h => h.elim, fun Cx ns es ρ' z' od H' O' σ' ⟨⟨ns', es', e⟩, h⟩ g w ex => ?_⟩
    · obtain ⟨q1, q2, dx', vs, q3, q4, q5⟩ := obj_at w e
      exact k1 ns es z' vs dx' H' h (g.finI w q1 q2) q3 q4 (Reps.mono (nnI q1) _ _ q5)
    · obtain ⟨q1, q2, _⟩ := obj_at w e
      exact k2 Cx ns es z' od H' h (g.finI w q1 q2) (ex.mono (nnI q1))
end
/-! ### the law's own call -/
theorem has0 {a : Addr} : ¬ (⟨none, 0, m0⟩ : Z).has a := fun h => by
  rcases h with h | ⟨c, h⟩ <;> cases h
theorem law_d {K : PySem.W.Frag} {H : Hp} {a : Addr} {ns : List Int} {sp : PSp} (hS : SqL K H a (ns.map V.int)) (h : sp [.rol (ns.map .int)] ⟨none, 0, m0⟩ (fun d _ => d = .bl true) noP) : lift K sp [.ref a] H (fun v _ => v = .bl true) E0 := by
  unfold lift
  refine ⟨fun _ => False, [.rol (ns.map .int)], ⟨none, 0, m0⟩, _, _, fun _ h => h.elim, ⟨fun a h => (nomatch (show (none : Option Addr) = some a from h)), fun a c h => (nomatch (show (none : Option Cell) = some c from h))⟩, fun a h => absurd h has0, .cons ?_ .nil, h, fun d z' v H' hd f r => ?_, fun _ _ _ _ _ _ h => h.elim⟩
  · rw [Rep]
    refine ⟨a, _, rfl, ?_, Reps.ints⟩
    rcases hS with hS | hS
    · refine .inl ⟨?_, hS⟩
      rintro (q | q | ⟨i, q⟩)
      · exact q
      · exact absurd q has0
      · exact nomatch (show (none : Option Addr) = some a from q)
    · exact .inr (.inr hS)
  · subst hd
    exact RepP.bl (z := z') (.inl r)
/-- another promise for the same def -/
theorem FnG.imp {P : Program} {w : World} {K : PySem.W.Frag} {mg : Str → Option Value} {base : Heap} {CX : CXT} {k : Nat} {f : Addr} {fd : FuncData} {ps : List Str} {sp sp' : Sp} (F : FnG P w K mg base CX k f fd ps sp) (h : ∀ vs H Q E, sp' vs H Q E → sp vs H Q E) : FnG P w K mg base CX k f fd ps sp' :=
  ⟨fun vs H Q E q => F.ln vs H Q E (h _ _ _ _ q), fun A outer s H args us vs Q E r g e b v q => F.go A outer s H args us vs Q E r g e b v (h _ _ _ _ q)⟩
end Lay

set_option Elab.async false
set_option linter.all false
set_option maxRecDepth 100000
set_option maxHeartbeats 2000000
namespace Lay
open PySem PySem.Spec PyProof.Rows L2
theorem Rep.t {K : PySem.W.Frag} {N : Addr → Prop} {H : Hp} {n : String} : Rep K N H (.ty n) (.ty n) := by rw [Rep]
section
variable {K : PySem.W.Frag} {M : Addr → Prop} {H H' : Hp} {σ : L2.St} {ρ : List Sl} {z z' : Z} {O O' : Nat → Option Addr} {p : Addr} {o : HO}
end
section
variable {X : Cx} {W : WX} {a b : Expr} {pos : Pos}
def dPair (i j : Nat) (t1 : DX (List D)) (t2 : DX (List D)) : DTS := fun R ρ z => t1 ρ z (fun xs ρ1 z1 => t2 ρ1 z1 (fun ys ρ2 z2 => i < ρ2.length ∧ j < ρ2.length ∧ R.nx ((ρ2.set i (.own xs)).set j (.own ys)) z2) R.ex) R.ex
end
section
variable {X : Cx} {W : WX} {e : Expr} {pos : Pos}
theorem de_fldK {K : PySem.W.Frag} (hK : X.K = K) {t : DX D} {f : Str} (he : DP X W e t) (hb : attributeBase e f X.env (eval e X.env) = eval e X.env) : DE X W (.Attribute e f pos) (dUn (fldD K f) t) := by subst hK; exact de_fld he hb
theorem cd_isiK {K : PySem.W.Frag} (hK : X.K = K) : CallR X (.builtin "isinstance") (CallU X.K (isiD K)) := by subst hK; exact cd_isi
end
theorem cxK {CX : CXT} {P : Program} {w : World} {K : PySem.W.Frag} {mg : Str → Option Value} {base : Heap} {N : List Str} {qual : Str} {scope : Scope} {f : Addr} {cd : Value} {A : Around} {outer : List Env} {s : Shared} {H : Hp} {E : XK} : (cxOf CX P w K mg base N qual scope f cd A outer s H E).K = K := rfl
theorem noxK {X : Cx} : X.nox.K = X.K := rfl
theorem wishK {X : Cx} {E : Value → Shared → Prop} : (X.wish E).K = X.K := rfl
section
variable {X : Cx} {W : WX} {a b : Expr} {pos : Pos} {j k : Nat} {ps : List Str} {sp : PSp} {C : Addr} {D' : Addr → FuncData → Prop} {K : PySem.W.Frag}
theorem Method.dEqK {ta tb : DX D} (hK : X.K = K) (M : Method X.prog X.w X.K X.mg X.base CX0 k C "__eq__" D' ps (lift X.K sp)) (hr : Room j X.A) (hg : X.A.guards = some []) (ha : DE X W a ta) (hb : DE X W b tb) (hj : k ≤ j := by decide) : DE X W (.Compare a [.Eq] [b] pos) (dEqO K C sp id ta tb) := by
  subst hK; exact Method.dEq M hr hg ha hb hj
theorem Method.dNeK {ta tb : DX D} (hK : X.K = K) (M : Method X.prog X.w X.K X.mg X.base CX0 k C "__eq__" D' ps (lift X.K sp)) (N : NoNe X.K C) (hr : Room j X.A) (hg : X.A.guards = some []) (ha : DE X W a ta) (hb : DE X W b tb) (hj : k + 1 ≤ j := by decide) : DE X W (.Compare a [.NotEq] [b] pos) (dEqO K C sp not ta tb) := by
  subst hK; exact Method.dNe M N hr hg ha hb hj
theorem Method.tEqK {ta tb : DX D} (hK : X.K = K) (M : Method X.prog X.w X.K X.mg X.base CX0 k C "__eq__" D' ps (lift X.K sp)) (hr : Room j X.A) (hg : X.A.guards = some []) (ha : DE X W a ta) (hb : DE X W b tb) (hj : k ≤ j := by decide) : DT X W (.Compare a [.Eq] [b] pos) (dTest (dEqO K C sp id ta tb)) := by
  subst hK; exact Method.tEq M hr hg ha hb hj
theorem Method.tNeK {ta tb : DX D} (hK : X.K = K) (M : Method X.prog X.w X.K X.mg X.base CX0 k C "__eq__" D' ps (lift X.K sp)) (N : NoNe X.K C) (hr : Room j X.A) (hg : X.A.guards = some []) (ha : DE X W a ta) (hb : DE X W b tb) (hj : k + 1 ≤ j := by decide) : DT X W (.Compare a [.NotEq] [b] pos) (dTest (dEqO K C sp not ta tb)) := by
  subst hK; exact Method.tNe M N hr hg ha hb hj
end
/-! ### dicts whose keys are constants; a text turned about -/
section
variable {X : Cx} {W : WX} {e o i : Expr} {pos : Pos}
/-- a thing that is changed no more -/
theorem pe_frz {t : TE} (h : PE X e t) : PE X e (fun σ H Q => t σ H fun v H1 => ∃ d u, H1 d = some u ∧ Mut (some u) ∧ ∀ od, Q v (upd H1 d (.frz od u))) := ⟨fun pins s σ H Q I q => thn (h.run pins s σ H _ I q) fun v s1 ⟨x, H1, I1, r, d, u, hd, mu, k⟩ => by
  obtain ⟨od, I2⟩ := I1.lock hd mu
  exact ⟨x, _, I2, r, k od⟩⟩
theorem de_dict0 : DE X W (.Dict [] [] pos) (dC (.dic [] [])) := pe_to (pe_frz pe_dnewK) fun σ H Q ⟨M, ρ, z, O, R, RX, w, h, x, k⟩ => fun p hp => ⟨p, _, upd_same, True.intro, fun od => by
  rw [upd_upd]
  exact k (.dic [] []) ρ z _ _ O h (w.grow (same_new hp)).2 (w.grow (same_new hp)).1 (by show Rep X.K _ _ (.dic [] []) _; rw [Rep]; exact ⟨p, od, [], rfl, fun n => w.alloc p n hp, upd_same, rfl, Reps.nil⟩)⟩
def lookD : List Key → List D → Key → Option D
  | k :: ks, d :: ds, q => if k = q then some d else lookD ks ds q
  | _, _, _ => none
theorem look_reps {K : PySem.W.Frag} {N : Addr → Prop} {H : Hp} {q : Key} {d : D} : ∀ {ks : List Key} {ds : List D} {vs : List V}, Reps K N H ds vs → lookD ks ds q = some d → ∃ v, valV (ks.zip vs) q = some v ∧ Rep K N H d v
  | [], _, _, _, h => by cases h
  | _ :: _, [], _, _, h => by cases h
  | k :: ks, e :: ds, vs, r, h => by
    rw [Reps] at r
    obtain ⟨v, vr, rfl, r1, r2⟩ := r
    rw [lookD] at h
    unfold valV
    rw [List.zip_cons_cons]
    by_cases hk : k = q
    · rw [if_pos hk] at h
      cases h
      exact ⟨v, by rw [List.find?_cons_of_pos (by exact decide_eq_true hk)]; rfl, r1⟩
    · rw [if_neg hk] at h
      obtain ⟨v2, h2, h3⟩ := look_reps r2 h
      exact ⟨v2, by rw [List.find?_cons_of_neg (by simpa using hk)]; exact h2, h3⟩
def dixD : Op2
  | .dic ks ds, .str s, k => ∃ d, lookD ks ds (.inr s) = some d ∧ k d
  | .dic ks ds, .int s, k => ∃ d, lookD ks ds (.inl s) = some d ∧ k d
  | _, _, _ => False
def revT (z : Str) : Str := ⟨((Builtin.Str.strSliceIndices none none (-1) z.length).filterMap (z.cps[·]?)).toArray⟩
def revSD : D → (D → Prop) → Prop
  | .str z, k => z.length ≤ sizeLine ∧ k (.str ⟨z.cps.toList.reverse.toArray⟩)
  | _, _ => False
def catD : D → D → (List D → Prop) → Prop
  | .lst xs, .lst ys, k => xs.length + ys.length ≤ sizeLine ∧ k (xs ++ ys)
  | _, _, _ => False
def dCat (ta tb : DX D) : DX (List D) := fun ρ z R RX => ta ρ z (fun d1 ρ1 z1 => tb ρ1 z1 (fun d2 ρ2 z2 => catD d1 d2 fun ds => R ds ρ2 z2) RX) RX
end
end Lay

set_option Elab.async false
set_option linter.all false
set_option maxRecDepth 100000
set_option maxHeartbeats 2000000
namespace Lay
open PySem PySem.Spec PyProof.Rows L2
/-! ### one step at a time, where the slots are known -/
theorem ap_dVar (i : Nat) (s0 : Sl) (ρ0 : List Sl) (z : Z) (R : D → List Sl → Z → Prop) (RX : KX) : dVar i (s0 :: ρ0) z R RX = (match (s0 :: ρ0)[i]? with
  | some (.val d) => R d (s0 :: ρ0) z
  | some (.own ds) => R (.lst ds) ((s0 :: ρ0).set i (.val (.lst ds))) z
  | some (.dicA a _ _) => R (.adr a) (s0 :: ρ0) z
  | some (.lck _ d) => R d (s0 :: ρ0) z
  | _ => False) := rfl
theorem ap_dPeek (i : Nat) (s0 : Sl) (ρ0 : List Sl) (z : Z) (R : D → List Sl → Z → Prop) (RX : KX) : dPeek i (s0 :: ρ0) z R RX = (match (s0 :: ρ0)[i]? with
  | some (.val d) => R d (s0 :: ρ0) z
  | some (.own ds) => R (.lst ds) (s0 :: ρ0) z
  | some (.obj _ C ns ds) => R (.ins C ns ds) (s0 :: ρ0) z
  | some (.exc a _ _ _) => R (.adr a) (s0 :: ρ0) z
  | some (.dicA a _ _) => R (.adr a) (s0 :: ρ0) z
  | some (.lck _ d) => R d (s0 :: ρ0) z
  | _ => False) := rfl
theorem ap_dC (d : D) (s0 : Sl) (ρ0 : List Sl) (z : Z) (R : D → List Sl → Z → Prop) (RX : KX) : dC d (s0 :: ρ0) z R RX = (R d (s0 :: ρ0) z) := rfl
theorem ap_dOp (f : Op2) (ta tb : DX D) (s0 : Sl) (ρ0 : List Sl) (z : Z) (R : D → List Sl → Z → Prop) (RX : KX) : dOp f ta tb (s0 :: ρ0) z R RX = (ta (s0 :: ρ0) z (fun d1 ρ1 z1 => tb ρ1 z1 (fun d2 ρ2 z2 => f d1 d2 fun d => R d ρ2 z2) RX) RX) := rfl
theorem ap_dTest (t : DX D) (s0 : Sl) (ρ0 : List Sl) (z : Z) (R : Bool → List Sl → Z → Prop) (RX : KX) : dTest t (s0 :: ρ0) z R RX = (t (s0 :: ρ0) z (fun d ρ' z' => match d with | .bl b => R b ρ' z' | _ => False) RX) := rfl
theorem ap_dChain (f g : Op2) (ta tb tc : DX D) (s0 : Sl) (ρ0 : List Sl) (z : Z) (R : D → List Sl → Z → Prop) (RX : KX) : dChain f g ta tb tc (s0 :: ρ0) z R RX = (ta (s0 :: ρ0) z (fun d1 ρ1 z1 => tb ρ1 z1 (fun d2 ρ2 z2 => f d1 d2 fun d => match d with
  | .bl true => tc ρ2 z2 (fun d3 ρ3 z3 => g d2 d3 fun d => R d ρ3 z3) RX
  | .bl false => R (.bl false) ρ2 z2
  | _ => False) RX) RX) := rfl
theorem ap_dTru (t : DX D) (s0 : Sl) (ρ0 : List Sl) (z : Z) (R : Bool → List Sl → Z → Prop) (RX : KX) : dTru t (s0 :: ρ0) z R RX = (t (s0 :: ρ0) z (fun d ρ' z' => tru d fun b => R b ρ' z') RX) := rfl
theorem ap_dAndB (t u : DX Bool) (s0 : Sl) (ρ0 : List Sl) (z : Z) (R : Bool → List Sl → Z → Prop) (RX : KX) : dAndB t u (s0 :: ρ0) z R RX = (t (s0 :: ρ0) z (fun b ρ1 z1 => if b = true then u ρ1 z1 R RX else R false ρ1 z1) RX) := rfl
theorem ap_dOrB (t u : DX Bool) (s0 : Sl) (ρ0 : List Sl) (z : Z) (R : Bool → List Sl → Z → Prop) (RX : KX) : dOrB t u (s0 :: ρ0) z R RX = (t (s0 :: ρ0) z (fun b ρ1 z1 => if b = true then R true ρ1 z1 else u ρ1 z1 R RX) RX) := rfl
theorem ap_dNotB (t : DX Bool) (s0 : Sl) (ρ0 : List Sl) (z : Z) (R : Bool → List Sl → Z → Prop) (RX : KX) : dNotB t (s0 :: ρ0) z R RX = (t (s0 :: ρ0) z (fun b ρ1 z1 => R (!b) ρ1 z1) RX) := rfl
theorem ap_dAnd (t u : DX D) (s0 : Sl) (ρ0 : List Sl) (z : Z) (R : D → List Sl → Z → Prop) (RX : KX) : dAnd t u (s0 :: ρ0) z R RX = (t (s0 :: ρ0) z (fun d ρ1 z1 => tru d fun b => if b = true then u ρ1 z1 R RX else R d ρ1 z1) RX) := rfl
theorem ap_dOr (t u : DX D) (s0 : Sl) (ρ0 : List Sl) (z : Z) (R : D → List Sl → Z → Prop) (RX : KX) : dOr t u (s0 :: ρ0) z R RX = (t (s0 :: ρ0) z (fun d ρ1 z1 => tru d fun b => if b = true then R d ρ1 z1 else u ρ1 z1 R RX) RX) := rfl
theorem ap_dNot (t : DX D) (s0 : Sl) (ρ0 : List Sl) (z : Z) (R : D → List Sl → Z → Prop) (RX : KX) : dNot t (s0 :: ρ0) z R RX = (t (s0 :: ρ0) z (fun d ρ1 z1 => tru d fun b => R (.bl (!b)) ρ1 z1) RX) := rfl
theorem ap_dNil (s0 : Sl) (ρ0 : List Sl) (z : Z) (R : (List D) → List Sl → Z → Prop) (RX : KX) : dNil  (s0 :: ρ0) z R RX = (R [] (s0 :: ρ0) z) := rfl
theorem ap_dCons (t : DX D) (u : DX (List D)) (s0 : Sl) (ρ0 : List Sl) (z : Z) (R : (List D) → List Sl → Z → Prop) (RX : KX) : dCons t u (s0 :: ρ0) z R RX = (t (s0 :: ρ0) z (fun d ρ1 z1 => u ρ1 z1 (fun ds ρ2 z2 => R (d :: ds) ρ2 z2) RX) RX) := rfl
theorem ap_dTup (t : DX (List D)) (s0 : Sl) (ρ0 : List Sl) (z : Z) (R : D → List Sl → Z → Prop) (RX : KX) : dTup t (s0 :: ρ0) z R RX = (t (s0 :: ρ0) z (fun ds ρ' z' => ds.length ≤ sizeLine ∧ R (.tup ds) ρ' z') RX) := rfl
theorem ap_dLst (t : DX (List D)) (s0 : Sl) (ρ0 : List Sl) (z : Z) (R : D → List Sl → Z → Prop) (RX : KX) : dLst t (s0 :: ρ0) z R RX = (t (s0 :: ρ0) z (fun ds ρ' z' => ds.length ≤ sizeLine ∧ R (.lst ds) ρ' z') RX) := rfl
theorem ap_dLet (t : DX (List D)) (s0 : Sl) (ρ0 : List Sl) (z : Z) (R : D → List Sl → Z → Prop) (RX : KX) : dLet t (s0 :: ρ0) z R RX = (t (s0 :: ρ0) z (fun ds ρ' z' => R (.lst ds) ρ' z') RX) := rfl
theorem ap_dSized (t : DX (List D)) (s0 : Sl) (ρ0 : List Sl) (z : Z) (R : (List D) → List Sl → Z → Prop) (RX : KX) : dSized t (s0 :: ρ0) z R RX = (t (s0 :: ρ0) z (fun ds ρ' z' => ds.length ≤ sizeLine ∧ R ds ρ' z') RX) := rfl
theorem ap_dUn (f : D → (D → Prop) → Prop) (t : DX D) (s0 : Sl) (ρ0 : List Sl) (z : Z) (R : D → List Sl → Z → Prop) (RX : KX) : dUn f t (s0 :: ρ0) z R RX = (t (s0 :: ρ0) z (fun d ρ' z' => f d fun r => R r ρ' z') RX) := rfl
theorem ap_dNoPart (s0 : Sl) (ρ0 : List Sl) (z : Z) (R : (Option Int) → List Sl → Z → Prop) (RX : KX) : dNoPart  (s0 :: ρ0) z R RX = (R none (s0 :: ρ0) z) := rfl
theorem ap_dPart (t : DX D) (s0 : Sl) (ρ0 : List Sl) (z : Z) (R : (Option Int) → List Sl → Z → Prop) (RX : KX) : dPart t (s0 :: ρ0) z R RX = (t (s0 :: ρ0) z (fun d ρ' z' => match d with | .int i => R (some i) ρ' z' | _ => False) RX) := rfl
theorem ap_dSl (f : D → Option Int → Option Int → (D → Prop) → Prop) (t : DX D) (tl th : DX (Option Int)) (s0 : Sl) (ρ0 : List Sl) (z : Z) (R : D → List Sl → Z → Prop) (RX : KX) : dSl f t tl th (s0 :: ρ0) z R RX = (t (s0 :: ρ0) z (fun d ρ1 z1 => tl ρ1 z1 (fun l ρ2 z2 => th ρ2 z2 (fun u ρ3 z3 => f d l u fun r => R r ρ3 z3) RX) RX) RX) := rfl
theorem ap_dFn (f : FnD) (t : DX (List D)) (s0 : Sl) (ρ0 : List Sl) (z : Z) (R : D → List Sl → Z → Prop) (RX : KX) : dFn f t (s0 :: ρ0) z R RX = (t (s0 :: ρ0) z (fun ds ρ' z' => f ds fun d => R d ρ' z') RX) := rfl
theorem ap_dMt (f : FnS) (to : DX D) (t : DX (List D)) (s0 : Sl) (ρ0 : List Sl) (z : Z) (R : D → List Sl → Z → Prop) (RX : KX) : dMt f to t (s0 :: ρ0) z R RX = (to (s0 :: ρ0) z (fun d ρ1 z1 => ∃ y, d = .str y ∧ t ρ1 z1 (fun ds ρ2 z2 => f y ds fun r => R r ρ2 z2) RX) RX) := rfl
theorem ap_dMt0 (f : FnS) (to : DX D) (s0 : Sl) (ρ0 : List Sl) (z : Z) (R : D → List Sl → Z → Prop) (RX : KX) : dMt0 f to (s0 :: ρ0) z R RX = (to (s0 :: ρ0) z (fun d ρ1 z1 => ∃ y, d = .str y ∧ f y [] fun r => R r ρ1 z1) RX) := rfl
theorem ap_dFs (s : Str) (s0 : Sl) (ρ0 : List Sl) (z : Z) (R : Str → List Sl → Z → Prop) (RX : KX) : dFs s (s0 :: ρ0) z R RX = (R s (s0 :: ρ0) z) := rfl
theorem ap_dFmt (t : DX D) (s0 : Sl) (ρ0 : List Sl) (z : Z) (R : Str → List Sl → Z → Prop) (RX : KX) : dFmt t (s0 :: ρ0) z R RX = (t (s0 :: ρ0) z (fun d ρ' z' => fmtD d fun s => R s ρ' z') RX) := rfl
theorem ap_dJoin (t : DX Str) (s0 : Sl) (ρ0 : List Sl) (z : Z) (R : D → List Sl → Z → Prop) (RX : KX) : dJoin t (s0 :: ρ0) z R RX = (t (s0 :: ρ0) z (fun y ρ' z' => R (.str y) ρ' z') RX) := rfl
theorem ap_dNext (s0 : Sl) (ρ0 : List Sl) (z : Z) (R : DEnds) : dNext  R (s0 :: ρ0) z = (R.nx (s0 :: ρ0) z) := rfl
theorem ap_dSeq (t u : DTS) (s0 : Sl) (ρ0 : List Sl) (z : Z) (R : DEnds) : dSeq t u R (s0 :: ρ0) z = (t { R with nx := u R } (s0 :: ρ0) z) := rfl
theorem ap_dDrop (t : DX D) (s0 : Sl) (ρ0 : List Sl) (z : Z) (R : DEnds) : dDrop t R (s0 :: ρ0) z = (t (s0 :: ρ0) z (fun _ ρ' z' => R.nx ρ' z') R.ex) := rfl
theorem ap_dRet (t : DX D) (s0 : Sl) (ρ0 : List Sl) (z : Z) (R : DEnds) : dRet t R (s0 :: ρ0) z = (t (s0 :: ρ0) z (fun d _ z' => R.rt d z') R.ex) := rfl
theorem ap_dIf (c : DX Bool) (t u : DTS) (s0 : Sl) (ρ0 : List Sl) (z : Z) (R : DEnds) : dIf c t u R (s0 :: ρ0) z = (c (s0 :: ρ0) z (fun b ρ' z' => if b = true then t R ρ' z' else u R ρ' z') R.ex) := rfl
theorem ap_dAsg (t : DX D) (g : DTG) (s0 : Sl) (ρ0 : List Sl) (z : Z) (R : DEnds) : dAsg t g R (s0 :: ρ0) z = (t (s0 :: ρ0) z (fun d ρ' z' => g d ρ' z' R.nx) R.ex) := rfl
theorem ap_dSet (i : Nat) (t : DX D) (s0 : Sl) (ρ0 : List Sl) (z : Z) (R : DEnds) : dSet i t R (s0 :: ρ0) z = (t (s0 :: ρ0) z (fun d ρ' z' => R.nx (ρ'.set i (.val d)) z') R.ex) := rfl
theorem ap_dOwn (i : Nat) (t : DX (List D)) (s0 : Sl) (ρ0 : List Sl) (z : Z) (R : DEnds) : dOwn i t R (s0 :: ρ0) z = (t (s0 :: ρ0) z (fun ds ρ' z' => i < ρ'.length ∧ R.nx (ρ'.set i (.own ds)) z') R.ex) := rfl
theorem ap_dAppend (i : Nat) (t : DX D) (s0 : Sl) (ρ0 : List Sl) (z : Z) (R : DEnds) : dAppend i t R (s0 :: ρ0) z = (∃ ds0, (s0 :: ρ0)[i]? = some (.own ds0) ∧ t (s0 :: ρ0) z (fun d ρ' z' => match ρ'[i]? with | some (.own ds) => ds.length < sizeLine ∧ R.nx (ρ'.set i (.own (ds ++ [d]))) z' | _ => False) R.ex) := rfl
theorem ap_dAug (i : Nat) (f : Op2) (t : DX D) (s0 : Sl) (ρ0 : List Sl) (z : Z) (R : DEnds) : dAug i f t R (s0 :: ρ0) z = (∃ x, (s0 :: ρ0)[i]? = some (.val x) ∧ t (s0 :: ρ0) z (fun y ρ' z' => f x y fun r => R.nx (ρ'.set i (.val r)) z') R.ex) := rfl
theorem ap_dFldS (K : PySem.W.Frag) (i : Nat) (f : Str) (t : DX D) (s0 : Sl) (ρ0 : List Sl) (z : Z) (R : DEnds) : dFldS K i f t R (s0 :: ρ0) z = (t (s0 :: ρ0) z (fun d ρ' z' => match ρ'[i]? with
  | some (.obj x C ns ds) => AttrOk K C f ∧ ns.length < 1000 ∧ f ∉ ns ∧ R.nx (ρ'.set i (.obj x C (ns ++ [f]) (ds ++ [d]))) z'
  | _ => False) R.ex) := rfl
theorem ap_dPar (i j : Nat) (t : DX (List D)) (s0 : Sl) (ρ0 : List Sl) (z : Z) (R : DEnds) : dPar i j t R (s0 :: ρ0) z = (t (s0 :: ρ0) z (fun ds ρ' z' => match ds with | [x, y] => R.nx ((ρ'.set i (.val x)).set j (.val y)) z' | _ => False) R.ex) := rfl
theorem ap_dPar3 (i j l : Nat) (t : DX (List D)) (s0 : Sl) (ρ0 : List Sl) (z : Z) (R : DEnds) : dPar3 i j l t R (s0 :: ρ0) z = (t (s0 :: ρ0) z (fun ds ρ' z' => match ds with | [x, y, u] => R.nx (((ρ'.set i (.val x)).set j (.val y)).set l (.val u)) z' | _ => False) R.ex) := rfl
theorem ap_dIt (t : DX D) (s0 : Sl) (ρ0 : List Sl) (z : Z) (R : (List D) → List Sl → Z → Prop) (RX : KX) : dIt t (s0 :: ρ0) z R RX = (t (s0 :: ρ0) z (fun d ρ' z' => iterD d fun ds => R ds ρ' z') RX) := rfl
theorem ap_dItA (f : List D → (List D → Prop) → Prop) (t : DX (List D)) (s0 : Sl) (ρ0 : List Sl) (z : Z) (R : (List D) → List Sl → Z → Prop) (RX : KX) : dItA f t (s0 :: ρ0) z R RX = (t (s0 :: ρ0) z (fun ds ρ' z' => f ds fun es => R es ρ' z') RX) := rfl
theorem ap_dFor (t : DX (List D)) (g : DTG) (tb : DTS) (s0 : Sl) (ρ0 : List Sl) (z : Z) (R : DEnds) : dFor t g tb R (s0 :: ρ0) z = (t (s0 :: ρ0) z (fun ds ρ' z' => forD g tb ds R ρ' z') R.ex) := rfl
theorem ap_dLc (t : DX (List D)) (g : DTG) (tt : DX Bool) (te : DX D) (vs : List Nat) (s0 : Sl) (ρ0 : List Sl) (z : Z) (R : (List D) → List Sl → Z → Prop) (RX : KX) : dLc t g tt te vs (s0 :: ρ0) z R RX = (t (s0 :: ρ0) z (fun ds ρ' z' => lcD g tt te vs ds [] (wipeD ρ' vs) z' R) RX) := rfl
theorem ap_dYes (s0 : Sl) (ρ0 : List Sl) (z : Z) (R : Bool → List Sl → Z → Prop) (RX : KX) : dYes  (s0 :: ρ0) z R RX = (R true (s0 :: ρ0) z) := rfl
theorem ap_dCall (sp : PSp) (t : DX (List D)) (s0 : Sl) (ρ0 : List Sl) (z : Z) (R : D → List Sl → Z → Prop) (RX : KX) : dCall sp t (s0 :: ρ0) z R RX = (t (s0 :: ρ0) z (fun ds ρ' z' => sp ds z' (fun d z2 => R d ρ' z2) (fun C ns es z2 => RX C ns es ρ' z2)) RX) := rfl
theorem ap_dCall0 (sp : PSp) (t : DX (List D)) (s0 : Sl) (ρ0 : List Sl) (z : Z) (R : D → List Sl → Z → Prop) (RX : KX) : dCall0 sp t (s0 :: ρ0) z R RX = (t (s0 :: ρ0) z (fun ds ρ' z' => sp ds z' (fun d z2 => R d ρ' z2) noP) RX) := rfl
theorem ap_dCallKw (n m : Nat) (gD : List D → List D → List D) (sp : PSp) (t tk : DX (List D)) (s0 : Sl) (ρ0 : List Sl) (z : Z) (R : D → List Sl → Z → Prop) (RX : KX) : dCallKw n m gD sp t tk (s0 :: ρ0) z R RX = (t (s0 :: ρ0) z (fun ds ρ1 z1 => tk ρ1 z1 (fun es ρ2 z2 => ds.length = n ∧ es.length = m ∧ sp (gD ds es) z2 (fun d z3 => R d ρ2 z3) (fun C ns es z3 => RX C ns es ρ2 z3)) RX) RX) := rfl
theorem ap_dCallKw0 (n m : Nat) (gD : List D → List D → List D) (sp : PSp) (t tk : DX (List D)) (s0 : Sl) (ρ0 : List Sl) (z : Z) (R : D → List Sl → Z → Prop) (RX : KX) : dCallKw0 n m gD sp t tk (s0 :: ρ0) z R RX = (t (s0 :: ρ0) z (fun ds ρ1 z1 => tk ρ1 z1 (fun es ρ2 z2 => ds.length = n ∧ es.length = m ∧ sp (gD ds es) z2 (fun d z3 => R d ρ2 z3) noP) RX) RX) := rfl
theorem ap_dMeth (C : Addr) (m : Str) (sp : PSp) (to : DX D) (t : DX (List D)) (s0 : Sl) (ρ0 : List Sl) (z : Z) (R : D → List Sl → Z → Prop) (RX : KX) : dMeth C m sp to t (s0 :: ρ0) z R RX = (to (s0 :: ρ0) z (fun d ρ1 z1 => (∃ ns ds, d = .ins C ns ds ∧ m ∉ ns) ∧ t ρ1 z1 (fun es ρ2 z2 => sp (d :: es) z2 (fun r z3 => R r ρ2 z3) (fun C ns es z3 => RX C ns es ρ2 z3)) RX) RX) := rfl
theorem ap_dMeth0 (C : Addr) (m : Str) (sp : PSp) (to : DX D) (t : DX (List D)) (s0 : Sl) (ρ0 : List Sl) (z : Z) (R : D → List Sl → Z → Prop) (RX : KX) : dMeth0 C m sp to t (s0 :: ρ0) z R RX = (to (s0 :: ρ0) z (fun d ρ1 z1 => (∃ ns ds, d = .ins C ns ds ∧ m ∉ ns) ∧ t ρ1 z1 (fun es ρ2 z2 => sp (d :: es) z2 (fun r z3 => R r ρ2 z3) noP) RX) RX) := rfl
theorem ap_dMethKw (C : Addr) (m : Str) (n mm : Nat) (gD : List D → List D → List D) (sp : PSp) (to : DX D) (t tk : DX (List D)) (s0 : Sl) (ρ0 : List Sl) (z : Z) (R : D → List Sl → Z → Prop) (RX : KX) : dMethKw C m n mm gD sp to t tk (s0 :: ρ0) z R RX = (to (s0 :: ρ0) z (fun d ρ1 z1 => (∃ ns ds, d = .ins C ns ds ∧ m ∉ ns) ∧ t ρ1 z1 (fun es ρ2 z2 => tk ρ2 z2 (fun fs ρ3 z3 => es.length = n ∧ fs.length = mm ∧
  sp (gD (d :: es) fs) z3 (fun r z4 => R r ρ3 z4) noP) RX) RX) RX) := rfl
theorem ap_dOne (C : Addr) (sp : PSp) (c : D → Prop) (t : DX D) (s0 : Sl) (ρ0 : List Sl) (z : Z) (R : D → List Sl → Z → Prop) (RX : KX) : dOne C sp c t (s0 :: ρ0) z R RX = (t (s0 :: ρ0) z (fun d ρ1 z1 => (∃ ns ds, d = .ins C ns ds) ∧ sp [d] z1 (fun r z2 => c r ∧ R r ρ1 z2) noP) RX) := rfl
theorem ap_dFmtO (C : Addr) (sp : PSp) (t : DX D) (s0 : Sl) (ρ0 : List Sl) (z : Z) (R : Str → List Sl → Z → Prop) (RX : KX) : dFmtO C sp t (s0 :: ρ0) z R RX = (t (s0 :: ρ0) z (fun d ρ1 z1 => (∃ ns ds, d = .ins C ns ds) ∧ sp [d] z1 (fun r z2 => match r with | .str y => R y ρ1 z2 | _ => False) noP) RX) := rfl
theorem ap_dEqO (K : PySem.W.Frag) (C : Addr) (sp : PSp) (f : Bool → Bool) (ta tb : DX D) (s0 : Sl) (ρ0 : List Sl) (z : Z) (R : D → List Sl → Z → Prop) (RX : KX) : dEqO K C sp f ta tb (s0 :: ρ0) z R RX = (ta (s0 :: ρ0) z (fun d1 ρ1 z1 => tb ρ1 z1 (fun d2 ρ2 z2 => (∃ ns ds, d1 = .ins C ns ds) ∧ (∃ t, tyD K d2 t ∧ PySem.W.notFirst K C t = true) ∧
  sp [d1, d2] z2 (fun r z3 => match r with | .bl b => R (.bl (f b)) ρ2 z3 | _ => False) noP) RX) RX) := rfl
theorem ap_dReqO (C : Addr) (sp : PSp) (ta tb : DX D) (s0 : Sl) (ρ0 : List Sl) (z : Z) (R : D → List Sl → Z → Prop) (RX : KX) : dReqO C sp ta tb (s0 :: ρ0) z R RX = (ta (s0 :: ρ0) z (fun d1 ρ1 z1 => tb ρ1 z1 (fun d2 ρ2 z2 => (∃ ns ds, d2 = .ins C ns ds) ∧ plainD d1 ∧
  sp [d2, d1] z2 (fun r z3 => match r with | .bl b => R (.bl b) ρ2 z3 | _ => False) noP) RX) RX) := rfl
theorem ap_dMake (C : Addr) (isp : ISp) (t : DX (List D)) (s0 : Sl) (ρ0 : List Sl) (z : Z) (R : D → List Sl → Z → Prop) (RX : KX) : dMake C isp t (s0 :: ρ0) z R RX = (t (s0 :: ρ0) z (fun ds ρ' z' => isp ds z' (fun ns es z2 => R (.ins C ns es) ρ' z2) (fun Cx ns es z2 => RX Cx ns es ρ' z2)) RX) := rfl
theorem ap_dMake0 (C : Addr) (isp : ISp) (t : DX (List D)) (s0 : Sl) (ρ0 : List Sl) (z : Z) (R : D → List Sl → Z → Prop) (RX : KX) : dMake0 C isp t (s0 :: ρ0) z R RX = (t (s0 :: ρ0) z (fun ds ρ' z' => isp ds z' (fun ns es z2 => R (.ins C ns es) ρ' z2) noP) RX) := rfl
theorem ap_dMakeKw (C : Addr) (n m : Nat) (gD : List D → List D → List D) (isp : ISp) (t tk : DX (List D)) (s0 : Sl) (ρ0 : List Sl) (z : Z) (R : D → List Sl → Z → Prop) (RX : KX) : dMakeKw C n m gD isp t tk (s0 :: ρ0) z R RX = (t (s0 :: ρ0) z (fun ds ρ1 z1 => tk ρ1 z1 (fun es ρ2 z2 => ds.length = n ∧ es.length = m ∧
  isp (gD ds es) z2 (fun ns es z3 => R (.ins C ns es) ρ2 z3) (fun Cx ns es z3 => RX Cx ns es ρ2 z3)) RX) RX) := rfl
theorem ap_dMakeKw0 (C : Addr) (n m : Nat) (gD : List D → List D → List D) (isp : ISp) (t tk : DX (List D)) (s0 : Sl) (ρ0 : List Sl) (z : Z) (R : D → List Sl → Z → Prop) (RX : KX) : dMakeKw0 C n m gD isp t tk (s0 :: ρ0) z R RX = (t (s0 :: ρ0) z (fun ds ρ1 z1 => tk ρ1 z1 (fun es ρ2 z2 => ds.length = n ∧ es.length = m ∧
  isp (gD ds es) z2 (fun ns es z3 => R (.ins C ns es) ρ2 z3) noP) RX) RX) := rfl
theorem ap_dRaise (C : Addr) (fn : List Str) (t : DX (List D)) (s0 : Sl) (ρ0 : List Sl) (z : Z) (R : DEnds) : dRaise C fn t R (s0 :: ρ0) z = (t (s0 :: ρ0) z (fun ds ρ' z' => ds.length = fn.length ∧ ds.length ≤ 1000 ∧ R.ex C fn ds ρ' z') R.ex) := rfl
theorem ap_dPair (i j : Nat) (t1 : DX (List D)) (t2 : DX (List D)) (s0 : Sl) (ρ0 : List Sl) (z : Z) (R : DEnds) : dPair i j t1 t2 R (s0 :: ρ0) z = (t1 (s0 :: ρ0) z (fun xs ρ1 z1 => t2 ρ1 z1 (fun ys ρ2 z2 => i < ρ2.length ∧ j < ρ2.length ∧ R.nx ((ρ2.set i (.own xs)).set j (.own ys)) z2) R.ex) R.ex) := rfl
theorem ap_dCat (ta tb : DX D) (s0 : Sl) (ρ0 : List Sl) (z : Z) (R : (List D) → List Sl → Z → Prop) (RX : KX) : dCat ta tb (s0 :: ρ0) z R RX = (ta (s0 :: ρ0) z (fun d1 ρ1 z1 => tb ρ1 z1 (fun d2 ρ2 z2 => catD d1 d2 fun ds => R ds ρ2 z2) RX) RX) := rfl
theorem e_tru1 : ∀ k, tru  D.non k = (k false) := by intros; rfl
theorem e_tru2 : ∀ b k, tru  (D.bl b) k = (k b) := by intros; rfl
theorem e_tru3 : ∀ i k, tru  (D.int i) k = (k (i != 0)) := by intros; rfl
theorem e_tru4 : ∀ z k, tru  (D.str z) k = (z.length ≤ sizeLine ∧ k ((z.length : Int) != 0)) := by intros; rfl
theorem e_tru5 : ∀ ds k, tru  (D.lst ds) k = (k (!ds.isEmpty)) := by intros; rfl
theorem e_tru6 : ∀ ds k, tru  (D.rol ds) k = (k (!ds.isEmpty)) := by intros; rfl
theorem e_tru7 : ∀ ds k, tru  (D.tup ds) k = (k (!ds.isEmpty)) := by intros; rfl
theorem e_fmtD1 : ∀ y k, fmtD  (D.str y) k = (y.length ≤ sizeLine ∧ k y) := by intros; rfl
theorem e_fmtD2 : ∀ i k, fmtD  (D.int i) k = (i.natAbs.log2 < 1920 ∧ k (toString i)) := by intros; rfl
theorem e_iterD1 : ∀ ds k, iterD  (D.lst ds) k = (k ds) := by intros; rfl
theorem e_iterD2 : ∀ ds k, iterD  (D.rol ds) k = (k ds) := by intros; rfl
theorem e_iterD3 : ∀ ds k, iterD  (D.tup ds) k = (k ds) := by intros; rfl
theorem e_iterD4 : ∀ z k, iterD  (D.str z) k = (k (signsD z)) := by intros; rfl
theorem e_addD1 : ∀ i j k, addD  (D.int i) (D.int j) k = (k (.int (i + j))) := by intros; rfl
theorem e_addD2 : ∀ i j k, addD  (D.str i) (D.str j) k = (i.length + j.length ≤ sizeLine ∧ k (.str (i ++ j))) := by intros; rfl
theorem e_addD3 : ∀ xs ys k, addD  (D.lst xs) (D.lst ys) k = (xs.length + ys.length ≤ sizeLine ∧ k (.lst (xs ++ ys))) := by intros; rfl
theorem e_addD4 : ∀ xs ys k, addD  (D.tup xs) (D.tup ys) k = (xs.length + ys.length ≤ sizeLine ∧ k (.tup (xs ++ ys))) := by intros; rfl
theorem e_subD1 : ∀ i j k, subD  (D.int i) (D.int j) k = (k (.int (i - j))) := by intros; rfl
theorem e_mulD1 : ∀ i j k, mulD  (D.int i) (D.int j) k = (CMulW i j ∧ k (.int (i * j))) := by intros; rfl
theorem e_mulD2 : ∀ xs j k, mulD  (D.lst xs) (D.int j) k = (-(2 ^ 63) ≤ j ∧ j < 2 ^ 63 ∧ xs.length * j.toNat ≤ sizeLine ∧ k (.lst (List.replicate j.toNat xs).flatten)) := by intros; rfl
theorem e_mulD3 : ∀ i j k, mulD  (D.str i) (D.int j) k = (MulOk i j ∧ k (.str (Txt.mul i j))) := by intros; rfl
theorem e_fdivD1 : ∀ i j k, fdivD  (D.int i) (D.int j) k = (j.natAbs.log2 < 9000 ∧ if 0 < j then k (.int (i / j)) else j ≠ 0 ∧ k (.int (i.fdiv j))) := by intros; rfl
theorem e_modD1 : ∀ i j k, modD  (D.int i) (D.int j) k = (0 < j ∧ k (.int (i % j))) := by intros; rfl
theorem e_powD1 : ∀ i j k, powD  (D.int i) (D.int j) k = (CPow i j ∧ k (.int (i ^ j.toNat))) := by intros; rfl
theorem e_cmpD1 (f : Int → Int → Bool) (g : List Nat → List Nat → Bool) : ∀ i j k, cmpD f g (D.int i) (D.int j) k = (k (.bl (f i j))) := by intros; rfl
theorem e_cmpD2 (f : Int → Int → Bool) (g : List Nat → List Nat → Bool) : ∀ i j k, cmpD f g (D.str i) (D.str j) k = (k (.bl (g i.cps.toList j.cps.toList))) := by intros; rfl
theorem e_eqD1 (f : Bool → Bool) : ∀ i j k, eqD f (D.int i) (D.int j) k = (k (.bl (f (decide (i = j))))) := by intros; rfl
theorem e_eqD2 (f : Bool → Bool) : ∀ i j k, eqD f (D.str i) (D.str j) k = (k (.bl (f (decide (i = j))))) := by intros; rfl
theorem e_eqD3 (f : Bool → Bool) : ∀ i j k, eqD f (D.bl i) (D.bl j) k = (k (.bl (f (decide (i = j))))) := by intros; rfl
theorem e_eqD4 (f : Bool → Bool) : ∀ k, eqD f D.non D.non k = (k (.bl (f true))) := by intros; rfl
theorem e_eqD5 (f : Bool → Bool) : ∀ v1 k, eqD f D.non (D.int v1) k = (k (.bl (f false))) := by intros; rfl
theorem e_eqD6 (f : Bool → Bool) : ∀ v1 k, eqD f D.non (D.str v1) k = (k (.bl (f false))) := by intros; rfl
theorem e_eqD7 (f : Bool → Bool) : ∀ v1 k, eqD f D.non (D.bl v1) k = (k (.bl (f false))) := by intros; rfl
theorem e_eqD8 (f : Bool → Bool) : ∀ v1 k, eqD f (D.int v1) D.non k = (k (.bl (f false))) := by intros; rfl
theorem e_eqD9 (f : Bool → Bool) : ∀ v1 k, eqD f (D.str v1) D.non k = (k (.bl (f false))) := by intros; rfl
theorem e_eqD10 (f : Bool → Bool) : ∀ v1 k, eqD f (D.bl v1) D.non k = (k (.bl (f false))) := by intros; rfl
theorem e_eqD11 (f : Bool → Bool) : ∀ v1 v2 k, eqD f (D.int v1) (D.str v2) k = (k (.bl (f false))) := by intros; rfl
theorem e_eqD12 (f : Bool → Bool) : ∀ v1 v2 k, eqD f (D.str v1) (D.int v2) k = (k (.bl (f false))) := by intros; rfl
theorem e_eqD13 (f : Bool → Bool) : ∀ v1 v2 k, eqD f (D.bl v1) (D.str v2) k = (k (.bl (f false))) := by intros; rfl
theorem e_eqD14 (f : Bool → Bool) : ∀ v1 v2 k, eqD f (D.str v1) (D.bl v2) k = (k (.bl (f false))) := by intros; rfl
theorem e_isNonD1 : isNonD  D.non = (true) := by intros; rfl
theorem e_negD1 : ∀ i k, negD  (D.int i) k = (k (.int (-i))) := by intros; rfl
theorem e_ixD1 : ∀ ds i k, ixD  (D.lst ds) (D.int i) k = (∃ d, atI ds i = some d ∧ k d) := by intros; rfl
theorem e_ixD2 : ∀ ds i k, ixD  (D.rol ds) (D.int i) k = (∃ d, atI ds i = some d ∧ k d) := by intros; rfl
theorem e_ixD3 : ∀ ds i k, ixD  (D.tup ds) (D.int i) k = (∃ d, atI ds i = some d ∧ k d) := by intros; rfl
theorem e_ixD4 : ∀ z i k, ixD  (D.str z) (D.int i) k = (z.length ≤ sizeLine ∧ ∃ c, atI z.cps.toList i = some c ∧ k (.str ⟨#[c]⟩)) := by intros; rfl
theorem e_slD1 : ∀ ds lo hi k, slD  (D.lst ds) lo hi k = (k (.lst (cutL ds lo hi))) := by intros; rfl
theorem e_slD2 : ∀ ds lo hi k, slD  (D.rol ds) lo hi k = (k (.lst (cutL ds lo hi))) := by intros; rfl
theorem e_slD3 : ∀ ds lo hi k, slD  (D.tup ds) lo hi k = (k (.tup (cutL ds lo hi))) := by intros; rfl
theorem e_slD4 : ∀ z lo hi k, slD  (D.str z) lo hi k = (z.length ≤ sizeLine ∧ k (.str (cutS z lo hi))) := by intros; rfl
theorem e_lenD1 : ∀ z k, lenD  [D.str z] k = (z.length ≤ sizeLine ∧ k (.int z.length)) := by intros; rfl
theorem e_lenD2 : ∀ ds k, lenD  [D.lst ds] k = (k (.int ds.length)) := by intros; rfl
theorem e_lenD3 : ∀ ds k, lenD  [D.rol ds] k = (k (.int ds.length)) := by intros; rfl
theorem e_lenD4 : ∀ ds k, lenD  [D.tup ds] k = (k (.int ds.length)) := by intros; rfl
theorem e_absD1 : ∀ i k, absD  [D.int i] k = (k (.int (if i < 0 then -i else i))) := by intros; rfl
theorem e_mmD1 (f : Int → Int → Int) : ∀ i j k, mmD f [D.int i, D.int j] k = (k (.int (f i j))) := by intros; rfl
theorem e_intD1 : ∀ i k, intD  [D.int i] k = (k (.int i)) := by intros; rfl
theorem e_intD2 : ∀ b k, intD  [D.bl b] k = (k (.int (if b then 1 else 0))) := by intros; rfl
theorem e_intD3 : ∀ z k, intD  [D.str z] k = (∃ n, PySem.intText? z = some n ∧ z.length ≤ 640 ∧ k (.int n)) := by intros; rfl
theorem e_strD1 : ∀ i k, strD  [D.int i] k = (i.natAbs.log2 < 1920 ∧ k (.str (toString i))) := by intros; rfl
theorem e_strD2 : ∀ z k, strD  [D.str z] k = (k (.str z)) := by intros; rfl
theorem e_tupleD1 : ∀ ds k, tupleD  [D.lst ds] k = (k (.tup ds)) := by intros; rfl
theorem e_tupleD2 : ∀ ds k, tupleD  [D.rol ds] k = (k (.tup ds)) := by intros; rfl
theorem e_tupleD3 : ∀ ds k, tupleD  [D.tup ds] k = (k (.tup ds)) := by intros; rfl
theorem e_listD1 : ∀ ds k, listD  [D.lst ds] k = (k (.lst ds)) := by intros; rfl
theorem e_listD2 : ∀ ds k, listD  [D.rol ds] k = (k (.lst ds)) := by intros; rfl
theorem e_listD3 : ∀ ds k, listD  [D.tup ds] k = (k (.lst ds)) := by intros; rfl
theorem e_splitD1 : ∀ z y k, splitD  z [D.str y] k = ((y.length == 0) = false ∧ z.length + 2 ≤ sizeLine ∧ k (.lst ((Txt.split z y).map .str))) := by intros; rfl
theorem e_joinD1 : ∀ z ds k, joinD  z [D.lst ds] k = (∃ ys : List Str, ds = ys.map .str ∧ (ys.map (·.length)).sum + ys.length * z.length ≤ 16777216 ∧ k (.str (Txt.join z ys))) := by intros; rfl
theorem e_joinD2 : ∀ z ds k, joinD  z [D.tup ds] k = (∃ ys : List Str, ds = ys.map .str ∧ (ys.map (·.length)).sum + ys.length * z.length ≤ 16777216 ∧ k (.str (Txt.join z ys))) := by intros; rfl
theorem e_str1D1 (C : Str → Str → Prop) (g : Str → Str → D) : ∀ z y k, str1D C g z [D.str y] k = (C z y ∧ k (g z y)) := by intros; rfl
theorem e_iaddD1 : ∀ i j k, iaddD  (D.int i) (D.int j) k = (k (.int (i + j))) := by intros; rfl
theorem e_iaddD2 : ∀ i j k, iaddD  (D.str i) (D.str j) k = (i.length + j.length ≤ sizeLine ∧ k (.str (i ++ j))) := by intros; rfl
theorem e_imulD1 : ∀ i j k, imulD  (D.int i) (D.int j) k = (CMulW i j ∧ k (.int (i * j))) := by intros; rfl
theorem e_ifdivD1 : ∀ i j k, ifdivD  (D.int i) (D.int j) k = (CDivW i j ∧ k (.int (i / j))) := by intros; rfl
theorem e_enumD1 : ∀ ds k, enumD  [D.lst ds] k = (k (ds.mapIdx fun i d => .tup [.int i, d])) := by intros; rfl
theorem e_enumD2 : ∀ ds k, enumD  [D.rol ds] k = (k (ds.mapIdx fun i d => .tup [.int i, d])) := by intros; rfl
theorem e_zipF1 : ∀ xs ys k, zipF  [D.lst xs, D.lst ys] k = (k (zipD xs ys)) := by intros; rfl
theorem e_zipF2 : ∀ xs ys k, zipF  [D.tup xs, D.tup ys] k = (k (zipD xs ys)) := by intros; rfl
theorem e_rng11 : ∀ j k, rng1  [D.int j] k = (-(2 ^ 62) ≤ j ∧ j < 2 ^ 62 ∧ k (rngD 0 j.toNat)) := by intros; rfl
theorem e_rng21 : ∀ i j k, rng2  [D.int i, D.int j] k = ((-(2 ^ 62) ≤ i ∧ i < 2 ^ 62 ∧ -(2 ^ 62) ≤ j ∧ j < 2 ^ 62) ∧ k (rngD i (j - i).toNat)) := by intros; rfl
theorem e_rng31 : ∀ i j c k, rng3  [D.int i, D.int j, D.int c] k = (c = -1 ∧ (-(2 ^ 62) ≤ i ∧ i < 2 ^ 62 ∧ -(2 ^ 62) ≤ j ∧ j < 2 ^ 62) ∧ k (rngC i (-1) (i - j).toNat)) := by intros; rfl
theorem e_fldD1 (K : PySem.W.Frag) (f : Str) : ∀ ns ds k, fldD K f (D.ins C ns ds) k = (AttrOk K C f ∧ ∃ d, (ns.zip ds).lookup f = some d ∧ k d) := by intros; rfl
theorem e_dixD1 : ∀ ks ds s k, dixD  (D.dic ks ds) (D.str s) k = (∃ d, lookD ks ds (.inr s) = some d ∧ k d) := by intros; rfl
theorem e_dixD2 : ∀ ks ds s k, dixD  (D.dic ks ds) (D.int s) k = (∃ d, lookD ks ds (.inl s) = some d ∧ k d) := by intros; rfl
theorem e_revSD1 : ∀ z k, revSD  (D.str z) k = (z.length ≤ sizeLine ∧ k (.str ⟨z.cps.toList.reverse.toArray⟩)) := by intros; rfl
theorem e_catD1 : ∀ xs ys k, catD  (D.lst xs) (D.lst ys) k = (xs.length + ys.length ≤ sizeLine ∧ k (xs ++ ys)) := by intros; rfl
theorem ap_dJs0 (acc : Str) (s : Sl) (ρ : List Sl) (z : Z) (R : Str → List Sl → Z → Prop) (RX : KX) : dJs [] acc (s :: ρ) z R RX = R acc (s :: ρ) z := rfl
theorem ap_dJs1 (t : DX Str) (ts : List (DX Str)) (acc : Str) (s : Sl) (ρ : List Sl) (z : Z) (R : Str → List Sl → Z → Prop) (RX : KX) : dJs (t :: ts) acc (s :: ρ) z R RX = t (s :: ρ) z (fun y ρ' z' => (acc ++ y).length ≤ sizeLine ∧ dJs ts (acc ++ y) ρ' z' R RX) RX := rfl
theorem ap_dTry (K : PySem.W.Frag) (c : Value) (i : Nat) (body : DTS) (suite : Addr → Value → Option Addr → DTS) (R : DEnds) (s0 : Sl) (ρ0 : List Sl) (z : Z) : dTry K c i body suite R (s0 :: ρ0) z = body { nx := R.nx, rt := R.rt, bk := R.bk, ct := R.ct, ex := fun C ns ds ρ' z' => ∃ b, PySem.W.exmOne K (.ref C) c = some b ∧
  (b = true → ∀ a od, (ns ≠ [] → od ≠ none) → suite a (.ref C) od { nx := fun ρ2 z2 => R.nx (ρ2.set i .any) z2, rt := R.rt, bk := fun ρ2 z2 => R.bk (ρ2.set i .any) z2, ct := fun ρ2 z2 => R.ct (ρ2.set i .any) z2, ex := R.ex } (ρ'.set i (.exc a od ns ds)) z') ∧ (b = false → R.ex C ns ds ρ' z') } (s0 :: ρ0) z := rfl
theorem ap_dXf (a : Addr) (cls : Value) (od : Option Addr) (C : Addr) (i : Nat) (f : Str) (s0 : Sl) (ρ0 : List Sl) (z : Z) (R : D → List Sl → Z → Prop) (RX : KX) : dXf a cls od C i f (s0 :: ρ0) z R RX = match (s0 :: ρ0)[i]? with
  | some (.exc a' od' ns ds) => a' = a ∧ cls = .ref C ∧ od' = od ∧ od ≠ none ∧ ∃ d, ((ns.zip ds).reverse).lookup f = some d ∧ R d (s0 :: ρ0) z
  | _ => False := rfl
theorem ex_obj1 (x C : Addr) (a : List Str) (b : List D) : (∃ ns es, Sl.obj x C a b = Sl.obj x C ns es) = True := eq_true ⟨a, b, rfl⟩
theorem ex_obj2 (x C : Addr) (a : List Str) (b : List D) (p : List Str → List D → Prop) : (∃ ns es, Sl.obj x C a b = Sl.obj x C ns es ∧ p ns es) = p a b := propext ⟨fun ⟨ns, es, e, h⟩ => by cases e; exact h, fun h => ⟨a, b, rfl, h⟩⟩
theorem ex_ins1 (C : Addr) (a : List Str) (b : List D) : (∃ ns es, D.ins C a b = D.ins C ns es) = True := eq_true ⟨a, b, rfl⟩
theorem ex_ins2 (C : Addr) (a : List Str) (b : List D) (p : List Str → Prop) : (∃ ns es, D.ins C a b = D.ins C ns es ∧ p ns) = p a := propext ⟨fun ⟨ns, es, e, h⟩ => by cases e; exact h, fun h => ⟨a, b, rfl, h⟩⟩
theorem ex_str (a : Str) (p : Str → Prop) : (∃ y, D.str a = D.str y ∧ p y) = p a := propext ⟨fun ⟨y, e, h⟩ => by cases e; exact h, fun h => ⟨a, rfl, h⟩⟩
theorem ex_own (a : List D) (p : Prop) : (∃ ds, Sl.own a = Sl.own ds ∧ p) = p := propext ⟨fun ⟨_, _, h⟩ => h, fun h => ⟨a, rfl, h⟩⟩
theorem ex_val (a : D) (p : D → Prop) : (∃ d, Sl.val a = Sl.val d ∧ p d) = p a := propext ⟨fun ⟨d, e, h⟩ => by cases e; exact h, fun h => ⟨a, rfl, h⟩⟩
theorem fld_of {K : PySem.W.Frag} {C : Addr} {f : Str} {ns : List Str} {ds : List D} {d : D} {k : D → Prop} (h : AttrOk K C f) (e : (ns.zip ds).lookup f = some d) : fldD K f (.ins C ns ds) k = k d :=
  propext ⟨fun ⟨_, d', e', q⟩ => by rw [e] at e'; cases e'; exact q, fun q => ⟨h, d, e, q⟩⟩
theorem ap_ix0 (a : D) (r : List D) (k : D → Prop) : (∃ d, atI (a :: r) 0 = some d ∧ k d) = k a := by
  have e : atI (a :: r) 0 = some a := atI_nat (j := 0) rfl
  rw [e]
  exact propext ⟨fun ⟨d, e, h⟩ => by cases e; exact h, fun h => ⟨a, rfl, h⟩⟩
theorem ap_ix1 (a b : D) (r : List D) (k : D → Prop) : (∃ d, atI (a :: b :: r) 1 = some d ∧ k d) = k b := by
  have e : atI (a :: b :: r) 1 = some b := atI_nat (j := 1) rfl
  rw [e]
  exact propext ⟨fun ⟨d, e, h⟩ => by cases e; exact h, fun h => ⟨b, rfl, h⟩⟩
theorem ap_ix2 (a b c : D) (r : List D) (k : D → Prop) : (∃ d, atI (a :: b :: c :: r) 2 = some d ∧ k d) = k c := by
  have e : atI (a :: b :: c :: r) 2 = some c := atI_nat (j := 2) rfl
  rw [e]
  exact propext ⟨fun ⟨d, e, h⟩ => by cases e; exact h, fun h => ⟨c, rfl, h⟩⟩
theorem e_lenOk (n : Int) : lenOk (.int n) = (0 ≤ n ∧ n < 2 ^ 63) := rfl
theorem e_isStr (z : Str) : isStr (.str z) = True := rfl
theorem le_sz0 : (0 ≤ sizeLine) = True := eq_true (Nat.zero_le _)
theorem le_sz1 : (1 ≤ sizeLine) = True := eq_true (by decide)
theorem le_sz2 : (2 ≤ sizeLine) = True := eq_true (by decide)
theorem le_sz3 : (3 ≤ sizeLine) = True := eq_true (by decide)
theorem le_sz4 : (4 ≤ sizeLine) = True := eq_true (by decide)
theorem le_sz5 : (5 ≤ sizeLine) = True := eq_true (by decide)
theorem le_sz6 : (6 ≤ sizeLine) = True := eq_true (by decide)
theorem le_sz7 : (7 ≤ sizeLine) = True := eq_true (by decide)
theorem le_sz8 : (8 ≤ sizeLine) = True := eq_true (by decide)
theorem ap_dIfE {α : Type} (c : DX Bool) (t u : DX α) (s0 : Sl) (ρ0 : List Sl) (z : Z) (R : α → List Sl → Z → Prop) (RX : KX) : dIfE c t u (s0 :: ρ0) z R RX = c (s0 :: ρ0) z (fun b ρ1 z1 => if b = true then t ρ1 z1 R RX else u ρ1 z1 R RX) RX := rfl
theorem ap_isD (f : Bool → Bool) (d : D) (k : D → Prop) : isD f d .non k = k (.bl (f (isNonD d))) := by unfold isD; simp only [true_and]
theorem ap_in1 (f : Bool → Bool) (i j : Str) (k : D → Prop) : inD f (.str i) (.str j) k = k (.bl (f (!(Builtin.Str.occurrences j i 0 j.length 1).isEmpty))) := rfl
theorem ap_in2 (f : Bool → Bool) (d : D) (es : List D) (k : D → Prop) : inD f d (.lst es) k = ∃ v vs, toV d = some v ∧ toVs es = some vs ∧ k (.bl (f (inV v vs))) := by cases d <;> rfl
theorem ap_in3 (f : Bool → Bool) (d : D) (es : List D) (k : D → Prop) : inD f d (.tup es) k = ∃ v vs, toV d = some v ∧ toVs es = some vs ∧ k (.bl (f (inV v vs))) := by cases d <;> rfl
theorem ap_isi (K : PySem.W.Frag) (d c : D) (k : D → Prop) : isiD K [d, c] k = ∃ t u b, tyD K d t ∧ clsD c = some u ∧ PySem.W.kitOne K t u = some b ∧ k (.bl b) := rfl
theorem ap_sum (ds : List D) (k : D → Prop) : sumD [.lst ds] k = ∃ ns : List Int, ds = ns.map D.int ∧ k (.int ns.sum) := rfl
theorem ap_any (f : List Bool → Bool) (ds : List D) (k : D → Prop) : anyD f [.lst ds] k = ∃ bs : List Bool, ds = bs.map D.bl ∧ k (.bl (f bs)) := rfl
theorem ap_dgName (i : Nat) (d : D) (s : Sl) (ρ : List Sl) (z : Z) (R : List Sl → Z → Prop) : dgName i d (s :: ρ) z R = R ((s :: ρ).set i (.val d)) z := rfl
theorem ap_dgTup (n : Nat) (gs : DTGs) (ds : List D) (s : Sl) (ρ : List Sl) (z : Z) (R : List Sl → Z → Prop) : dgTup n gs (.tup ds) (s :: ρ) z R = (ds.length = n ∧ gs ds (s :: ρ) z R) := rfl
theorem ap_dgCons (g : DTG) (gs : DTGs) (d : D) (r : List D) (s : Sl) (ρ : List Sl) (z : Z) (R : List Sl → Z → Prop) : dgCons g gs (d :: r) (s :: ρ) z R = g d (s :: ρ) z (fun ρ' z' => gs r ρ' z' R) := rfl
theorem ap_dgNil (ds : List D) (s : Sl) (ρ : List Sl) (z : Z) (R : List Sl → Z → Prop) : dgNil ds (s :: ρ) z R = (ds = [] ∧ R (s :: ρ) z) := rfl
end Lay

set_option Elab.async false
set_option linter.all false
set_option maxRecDepth 100000
set_option maxHeartbeats 2000000
namespace Lay
open PySem PySem.Spec PyProof.Rows L2
/-! ### data: shown, compared -/
mutual
def okD : D → Prop
  | .non => True
  | .bl _ => True
  | .int i => i.natAbs.log2 < 1920
  | .str z => z.cps.all (· < 0x110000) = true
  | .tup ds => okDs ds
  | .lst ds => okDs ds
  | _ => False
def okDs : List D → Prop
  | [] => True
  | d :: ds => okD d ∧ okDs ds
end
mutual
def bulkD : D → Nat
  | .str z => z.cps.size
  | .tup ds => bulkDs ds
  | .lst ds => bulkDs ds
  | _ => 0
def bulkDs : List D → Nat
  | [] => 0
  | d :: ds => bulkD d + 1 + bulkDs ds
end
mutual
def deepD : D → Nat
  | .tup ds => deepDs ds + 1
  | .lst ds => deepDs ds + 1
  | _ => 0
def deepDs : List D → Nat
  | [] => 0
  | d :: ds => max (deepD d) (deepDs ds)
end
mutual
def noBl : D → Prop
  | .bl _ => False
  | .tup ds => noBls ds
  | .lst ds => noBls ds
  | _ => True
def noBls : List D → Prop
  | [] => True
  | d :: ds => noBl d ∧ noBls ds
end
structure DatOk (d : D) (p : PyData) : Prop where
  e : dat d = some p
  sh : p.showable = true
  cl : p.canLay0 = true
  ls : p.leavesShort 2000 = true
  bk : p.bulk = bulkD d
  dp : p.depth = deepD d
structure DatsOk (d : List D) (p : List PyData) : Prop where
  e : dats d = some p
  sh : PyData.showableAll p = true
  cl : PyData.canLayAll0 p = true
  ls : PyData.leavesShortAll 2000 p = true
  bk : PyData.bulkAll p = bulkDs d
  dp : PyData.depthAll p = deepDs d
mutual
theorem okD.ok : ∀ d : D, okD d → ∃ p, DatOk d p
  | .non, _ => ⟨.none, by rw [dat], rfl, rfl, rfl, rfl, rfl⟩
  | .bl b, _ => ⟨.bool b, by rw [dat], rfl, rfl, rfl, rfl, rfl⟩
  | .int i, h => by
    rw [okD] at h
    exact ⟨.int i, by rw [dat], by simpa only [PyData.showable, decide_eq_true_eq] using h, rfl, int_short h, by rw [PyData.bulk, bulkD] <;> simp, by rw [PyData.depth, deepD] <;> simp⟩
  | .str z, h => by
    rw [okD] at h
    refine ⟨.str z, by rw [dat], rfl, by simpa only [PyData.canLay0, PyData.strOk] using h, ?_, by rw [PyData.bulk, bulkD], by rw [PyData.depth, deepD] <;> simp⟩
    rw [PyData.leavesShort, List.all_eq_true]
    intro c hc
    have := (Array.all_eq_true_iff_forall_mem.mp h) c (Array.mem_toList_iff.mp hc)
    simp only [decide_eq_true_eq] at this ⊢
    exact Nat.lt_trans this (by decide)
  | .tup ds, h => by
    rw [okD] at h
    obtain ⟨ps, q⟩ := okDs.ok ds h
    exact ⟨.tuple ps, by rw [dat, q.e]; rfl, by rw [PyData.showable]; exact q.sh, by rw [PyData.canLay0]; exact q.cl, by rw [PyData.leavesShort]; exact q.ls, by rw [PyData.bulk, bulkD]; exact q.bk, by rw [PyData.depth, deepD, q.dp]⟩
  | .lst ds, h => by
    rw [okD] at h
    obtain ⟨ps, q⟩ := okDs.ok ds h
    exact ⟨.list ps, by rw [dat, q.e]; rfl, by rw [PyData.showable]; exact q.sh, by rw [PyData.canLay0]; exact q.cl, by rw [PyData.leavesShort]; exact q.ls, by rw [PyData.bulk, bulkD]; exact q.bk, by rw [PyData.depth, deepD, q.dp]⟩
  | .adr _, h | .ty _, h | .rol _, h | .ins _ _ _, h => by simp [okD] at h
theorem okDs.ok : ∀ ds : List D, okDs ds → ∃ p, DatsOk ds p
  | [], _ => ⟨[], by rw [dats], rfl, rfl, rfl, rfl, rfl⟩
  | d :: ds, h => by
    rw [okDs] at h
    obtain ⟨p, q⟩ := okD.ok d h.1
    obtain ⟨ps, qs⟩ := okDs.ok ds h.2
    refine ⟨p :: ps, by rw [dats, q.e, qs.e]; rfl, ?_, ?_, ?_, ?_, ?_⟩
    · rw [PyData.showableAll, q.sh, qs.sh]; rfl
    · rw [PyData.canLayAll0, q.cl, qs.cl]; rfl
    · rw [PyData.leavesShortAll, q.ls, qs.ls]; rfl
    · rw [PyData.bulkAll, bulkDs, q.bk, qs.bk]
    · rw [PyData.depthAll, deepDs, q.dp, qs.dp]
end
/-- what repr shows -/
def showD (d : D) : Str := match dat d with
  | some p => p.shown
  | none => Str.empty
theorem use_repr {d : D} {k : D → Prop} (h : okD d) (hb : bulkD d ≤ 8000) (hd : deepD d ≤ 64) (q : k (.str (showD d))) : reprD [d] k := by
  obtain ⟨p, P⟩ := okD.ok d h
  refine ⟨p, P.e, P.sh, by unfold SeqAt.shaped; rw [P.cl, P.dp, decide_eq_true hd]; rfl, shown_small P.ls (by rw [P.bk]; exact hb), ?_⟩
  unfold showD at q
  rw [P.e] at q
  exact q
def kindP : PyData → Nat
  | .none => 0 | .bool _ => 1 | .int _ => 2 | .str _ => 3 | .list _ => 4 | .tuple _ => 5 | .dict _ => 6
def kindD : D → Nat
  | .non => 0 | .bl _ => 1 | .int _ => 2 | .str _ => 3 | .lst _ => 4 | .rol _ => 4 | .tup _ => 5 | _ => 9
theorem eqv_kind (p q : PyData) (h1 : kindP p ≠ 1) (h2 : kindP q ≠ 1) (h : PyData.eqv p q = true) : kindP p = kindP q := by
  cases p <;> cases q <;> first | rfl | (exact absurd rfl h1) | (exact absurd rfl h2) | (simp [PyData.eqv] at h)
theorem dat_kind {d : D} {p : PyData} (h : dat d = some p) : kindP p = kindD d := by
  cases d with
  | non => rw [dat] at h; cases h; rfl
  | bl b => rw [dat] at h; cases h; rfl
  | int b => rw [dat] at h; cases h; rfl
  | str b => rw [dat] at h; cases h; rfl
  | tup ds => rw [dat] at h; obtain ⟨ps, _, rfl⟩ := Option.map_eq_some_iff.mp h; rfl
  | lst ds => rw [dat] at h; obtain ⟨ps, _, rfl⟩ := Option.map_eq_some_iff.mp h; rfl
  | rol ds => rw [dat] at h; obtain ⟨ps, _, rfl⟩ := Option.map_eq_some_iff.mp h; rfl
  | adr a => simp [dat] at h
  | ty a => simp [dat] at h
  | ins C ns ds => simp [dat] at h
  | exn C ns ds => simp [dat] at h
  | dic ks ds => simp [dat] at h
theorem noBl_kind {d : D} (h : noBl d) : kindD d ≠ 1 := by
  cases d <;> simp [noBl, kindD] at h ⊢
mutual
theorem eqv_eq : ∀ (d e : D) (p q : PyData), noBl d → noBl e → dat d = some p → dat e = some q → okD d → okD e → PyData.eqv p q = true → d = e := fun d e p q h1 h2 h3 h4 h5 h6 h => by
  have k := eqv_kind p q (by rw [dat_kind h3]; exact noBl_kind h1) (by rw [dat_kind h4]; exact noBl_kind h2) h
  rw [dat_kind h3, dat_kind h4] at k
  match d, e, h1, h2, h3, h4, h5, h6, k with
  | .non, .non, _, _, _, _, _, _, _ => rfl
  | .int i, .int j, _, _, h3, h4, _, _, _ =>
    rw [dat] at h3 h4
    cases h3; cases h4
    rw [PyData.eqv, beq_iff_eq] at h
    rw [h]
  | .str i, .str j, _, _, h3, h4, _, _, _ =>
    rw [dat] at h3 h4
    cases h3; cases h4
    rw [PyData.eqv, beq_iff_eq] at h
    rw [h]
  | .tup ds, .tup es, h1, h2, h3, h4, h5, h6, _ =>
    rw [dat] at h3 h4
    obtain ⟨ps, e1, rfl⟩ := Option.map_eq_some_iff.mp h3
    obtain ⟨qs, e2, rfl⟩ := Option.map_eq_some_iff.mp h4
    rw [noBl] at h1 h2
    rw [okD] at h5 h6
    rw [PyData.eqv] at h
    rw [eqvs_eq ds es ps qs h1 h2 e1 e2 h5 h6 h]
  | .lst ds, .lst es, h1, h2, h3, h4, h5, h6, _ =>
    rw [dat] at h3 h4
    obtain ⟨ps, e1, rfl⟩ := Option.map_eq_some_iff.mp h3
    obtain ⟨qs, e2, rfl⟩ := Option.map_eq_some_iff.mp h4
    rw [noBl] at h1 h2
    rw [okD] at h5 h6
    rw [PyData.eqv] at h
    rw [eqvs_eq ds es ps qs h1 h2 e1 e2 h5 h6 h]
theorem eqvs_eq : ∀ (ds es : List D) (ps qs : List PyData), noBls ds → noBls es → dats ds = some ps → dats es = some qs → okDs ds → okDs es → PyData.eqvAll ps qs = true → ds = es
  | [], [], _, _, _, _, _, _, _, _, _ => rfl
  | [], e :: es, ps, qs, _, _, h3, h4, _, _, h => by
    rw [dats] at h3
    cases h3
    rw [dats] at h4
    obtain ⟨q, _, e2⟩ := Option.bind_eq_some_iff.mp h4
    obtain ⟨qs', _, rfl⟩ := Option.map_eq_some_iff.mp e2
    simp [PyData.eqvAll] at h
  | d :: ds, [], ps, qs, _, _, h3, h4, _, _, h => by
    rw [dats] at h4
    cases h4
    rw [dats] at h3
    obtain ⟨q, _, e2⟩ := Option.bind_eq_some_iff.mp h3
    obtain ⟨qs', _, rfl⟩ := Option.map_eq_some_iff.mp e2
    simp [PyData.eqvAll] at h
  | d :: ds, e :: es, ps, qs, h1, h2, h3, h4, h5, h6, h => by
    rw [dats] at h3 h4
    obtain ⟨p, a1, a2⟩ := Option.bind_eq_some_iff.mp h3
    obtain ⟨ps', a3, rfl⟩ := Option.map_eq_some_iff.mp a2
    obtain ⟨q, b1, b2⟩ := Option.bind_eq_some_iff.mp h4
    obtain ⟨qs', b3, rfl⟩ := Option.map_eq_some_iff.mp b2
    rw [noBls] at h1 h2
    rw [okDs] at h5 h6
    rw [PyData.eqvAll, Bool.and_eq_true] at h
    rw [eqv_eq d e p q h1.1 h2.1 a1 b1 h5.1 h6.1 h.1, eqvs_eq ds es ps' qs' h1.2 h2.2 a3 b3 h5.2 h6.2 h.2]
end
/-- == of lists, tuples without truths in them -/
theorem use_eqD {f : Bool → Bool} {d e : D} {k : D → Prop} (hk : kindD d = 4 ∨ kindD d = 5) (h1 : noBl d) (h2 : noBl e) (h3 : okD d) (h4 : okD e) (d1 : deepD d ≤ 64) (d2 : deepD e ≤ 64)
    (q : ∀ b : Bool, (b = true ↔ d = e) → k (.bl (f b))) : eqD f d e k := by
  obtain ⟨p, P⟩ := okD.ok d h3
  obtain ⟨r, R⟩ := okD.ok e h4
  have fin : ∃ p q, dat d = some p ∧ dat e = some q ∧ SeqAt.shaped p = true ∧ SeqAt.shaped q = true ∧ k (.bl (f (PyData.eqv p q))) := by
    refine ⟨p, r, P.e, R.e, by unfold SeqAt.shaped; rw [P.cl, P.dp, decide_eq_true d1]; rfl, by unfold SeqAt.shaped; rw [R.cl, R.dp, decide_eq_true d2]; rfl, q _ ⟨fun h => eqv_eq d e p r h1 h2 P.e R.e h3 h4 h, fun h => ?_⟩⟩
    subst h
    have := P.e.symm.trans R.e
    cases this
    exact SeqAt.eqv_refl p P.cl
  cases d <;> first | (simp [kindD] at hk; done) | exact fin
theorem okDs_map {α : Type} {f : α → D} : ∀ {l : List α}, (∀ a ∈ l, okD (f a)) → okDs (l.map f)
  | [], _ => by rw [List.map_nil, okDs]; trivial
  | a :: l, h => by rw [List.map_cons, okDs]; exact ⟨h a List.mem_cons_self, okDs_map fun b m => h b (List.mem_cons_of_mem _ m)⟩
theorem noBls_map {α : Type} {f : α → D} : ∀ {l : List α}, (∀ a ∈ l, noBl (f a)) → noBls (l.map f)
  | [], _ => by rw [List.map_nil, noBls]; trivial
  | a :: l, h => by rw [List.map_cons, noBls]; exact ⟨h a List.mem_cons_self, noBls_map fun b m => h b (List.mem_cons_of_mem _ m)⟩
theorem deepDs_map {α : Type} {f : α → D} {n : Nat} : ∀ {l : List α}, (∀ a ∈ l, deepD (f a) ≤ n) → deepDs (l.map f) ≤ n
  | [], _ => by rw [List.map_nil, deepDs]; exact Nat.zero_le _
  | a :: l, h => by
    rw [List.map_cons, deepDs]
    exact Nat.max_le.mpr ⟨h a List.mem_cons_self, deepDs_map fun b m => h b (List.mem_cons_of_mem _ m)⟩
theorem bulkDs_map {α : Type} {f : α → D} {n : Nat} : ∀ {l : List α}, (∀ a ∈ l, bulkD (f a) ≤ n) → bulkDs (l.map f) ≤ (n + 1) * l.length
  | [], _ => by rw [List.map_nil, bulkDs]; exact Nat.zero_le _
  | a :: l, h => by
    rw [List.map_cons, bulkDs, List.length_cons]
    have h1 := h a List.mem_cons_self
    have h2 := bulkDs_map fun b m => h b (List.mem_cons_of_mem _ m)
    rw [Nat.mul_add, Nat.mul_one]
    omega
theorem ok_ints {ns : List Int} (h : ∀ n ∈ ns, n.natAbs.log2 < 1920) : okDs (ns.map D.int) := okDs_map fun n m => by rw [okD]; exact h n m
theorem bulk_ints (ns : List Int) : bulkDs (ns.map D.int) ≤ ns.length := by
  have := bulkDs_map (f := D.int) (n := 0) (l := ns) fun a _ => by rw [bulkD] <;> simp
  omega
theorem deep_ints (ns : List Int) : deepDs (ns.map D.int) ≤ 0 := deepDs_map fun a _ => by rw [deepD] <;> simp
/-! ### an own class and the built-in kinds -/
structure IsC (K : PySem.W.Frag) (C : Addr) : Prop where
  c : PySem.W.isClsIn K C = true
  t : PySem.W.typeIn K (.ref C) = some (.type "type")
theorem IsC.no {K : PySem.W.Frag} {C : Addr} (h : IsC K C) {T : String} (hs : PySem.W.subIn K (.type T) (.ref C) = some false) : PySem.W.kitOne K (.type T) (.ref C) = some false := by
  unfold PySem.W.kitOne
  rw [if_neg (by simp)]
  unfold PySem.W.kitCls
  have b2 : ((PySem.W.clsIn K C).isSome && PySem.W.typeIn K (.ref C) == some (.type "type")) = true := by
    have q : (PySem.W.clsIn K C).isSome = true := h.c
    rw [q, h.t]; rfl
  show (if ((PySem.W.clsIn K C).isSome && PySem.W.typeIn K (.ref C) == some (.type "type")) = true then PySem.W.subIn K (.type T) (.ref C) else none) = some false
  rw [if_pos b2]
  exact hs
theorem IsC.data {K : PySem.W.Frag} {C : Addr} (h : IsC K C) {d : D} (hd : plainD d) : ∃ t, tyD K d t ∧ PySem.W.kitOne K t (.ref C) = some false ∧ PySem.W.notFirst K C t = true := by
  cases d with
  | str z => exact ⟨_, rfl, h.no rfl, rfl⟩
  | int z => exact ⟨_, rfl, h.no rfl, rfl⟩
  | bl z => exact ⟨_, rfl, h.no rfl, rfl⟩
  | non => exact ⟨_, rfl, h.no rfl, rfl⟩
  | tup z => exact ⟨_, rfl, h.no rfl, rfl⟩
  | lst z => exact ⟨_, rfl, h.no rfl, rfl⟩
  | _ => exact hd.elim
end Lay

set_option Elab.async false
set_option linter.all false
set_option maxRecDepth 100000
set_option maxHeartbeats 2000000
namespace Lay
open PySem PySem.Spec PyProof.Rows L2
/-! ### an exception caught stays as a value -/
def ExV (cls : Value) (od : Option Addr) (a : Addr) : HO := .ext fun h => ∃ oe, h.get? a = some oe ∧ Zc cls od oe ∧ ∃ vs, oe.data = .fields vs
theorem exV_ok {P : Program} {w : World} {H : Hp} {h : Heap} {a : Addr} {cls : Value} {od : Option Addr} {oe : Obj} (e : h.get? a = some oe) (z : Zc cls od oe) (d : ∃ vs, oe.data = .fields vs) : ObjOk P w H h a (ExV cls od a) :=
  ⟨⟨oe, e, z, d⟩, ⟨oe, e⟩, fun _ _ ⟨o, q, r⟩ k => ⟨o, k o q, r⟩⟩
section
variable {X : Cx} {pins : List (Addr × Obj)} {σ : L2.St} {H : Hp} {s : Shared}
/-- a pinned exception of ours gets its place in the heap that is kept -/
theorem keep_exc {a : Addr} {oe : Obj} {cls : Value} {od : Option Addr} (I : Inv X ((a, oe) :: pins) σ H s) (hz : Zc cls od oe) (hf : ∃ vs, oe.data = .fields vs) (n0 : X.s_0.heap.get? a = none) (np : ∀ p ∈ X.pn ++ pins, p.1 ≠ a) :
    Inv X pins σ (upd H a (ExV cls od a)) s := by
  obtain ⟨ha, na, nL, nF, nc⟩ := I.pin (a, oe) (List.mem_append_right _ List.mem_cons_self)
  have B := I.base
  refine ⟨I.ok, I.os, I.bare, ⟨B.keep, B.slot, fun b o e n hx => ?_, B.there, fun b xs e => ?_, fun b o u e => ?_, fun b ps e => ?_⟩, I.loc, I.cell, ?_, fun x c e => ?_, fun p hp => ?_, HOk.laidN I.hok (fun b u q => q) na (exV_ok ha hz hf), I.len⟩
  · rw [upd_ne (fun z => by rw [z, n0] at e; cases e)]
    exact B.free b o e n hx
  · have q := B.tups b xs e
    rw [upd_ne (ne_of_none q na)]; exact q
  · have q := B.frzs b o u e
    rw [upd_ne (ne_of_none q na)]; exact q
  · obtain ⟨m, q⟩ := B.tbls b ps e
    exact ⟨m, by rw [upd_ne (ne_of_none q na)]; exact q⟩
  · rw [upd_ne (Ne.symm nL)]; exact I.free
  · have hc : c ≠ a := fun z => by
      obtain ⟨v, o, ho, hd⟩ := I.cell x c e
      rw [z, ha] at ho
      cases ho
      exact nc _ hd
    rw [upd_ne hc]; exact I.freeC x c e
  · obtain ⟨e, n, r⟩ := I.pin p (by
      rcases List.mem_append.mp hp with h | h
      · exact List.mem_append_left _ h
      · exact List.mem_append_right _ (List.mem_cons_of_mem _ h))
    exact ⟨e, by rw [upd_ne (np p hp)]; exact n, r⟩
end
/-- behind the suite the exception is kept -/
def wKeep (K : PySem.W.Frag) (c : Value) (i : Nat) (ts : Addr → Value → Option Addr → TS) (Wout : WX) (D : Ends) : WX := fun cls d σ H => ∃ b, PySem.W.exmOne K cls c = some b ∧
  (b = true → ∀ a, H a = none → ts a cls d { nx := fun σ' H' => H' a = none → D.nx (σ'.set i none) (upd H' a (ExV cls d a)), rt := D.rt, bk := fun σ' H' => D.bk (σ'.set i none) H', ct := fun σ' H' => D.ct (σ'.set i none) H' } (σ.set i (some (.ref a))) H) ∧
  (b = false → Wout cls d σ H)
section
variable {X : Cx} {x n : Str} {c : Value} {i : Nat} {body suite : List Stmt} {b₀ : Stmt} {np pos pos' : Pos} {tb : WX → TS} {ts : Addr → Value → Option Addr → TS} {Wout : WX}
theorem ps_try_keep (hx : X.ex = []) (hs : X.stack = X.env :: X.outer) (hf : X.env.frame = some X.env.locals) (hN : X.N.Nodup) (hi : X.N[i]? = some n) (hln : X.env.kindOf n = some .local) (hc : Names X x c) (tk : Takes X Wout)
    (hb : ∀ (W : WX) (pn : List (Addr × Obj)) (xe : Value → Shared → Prop), Takes (X.tr pn xe) W → PassesOwn (model X.prog X.w) X.A X.env xe → PSs (X.tr pn xe) body (tb W))
    (hsu : ∀ (a : Addr) (oe : Obj) (cls : Value) (d : Option Addr) (pn : List (Addr × Obj)), Zc cls d oe → (∃ vs, oe.data = .fields vs) → PSs (X.suite a ((a, oe) :: pn)) (b₀ :: suite) (ts a cls d)) :
    PS X (.Try body [.ExceptHandler (some (.Name x np)) (some n) (b₀ :: suite) pos'] [] [] pos) (fun D σ H => tb (wKeep X.K c i ts Wout D) D σ H) := by
  constructor
  intro pins s σ H D I h
  have ok := I.ok
  have frames : X.A.frames = some (X.env :: X.outer) := ok.frames.trans (congrArg some hs)
  apply wpAny_Try_except
  have body_runs := (hb (wKeep X.K c i ts Wout D) (X.pn ++ pins) (fun e s₁ => wpAny (model X.prog X.w) X.A (noteFrame e X.env) (fun _ s₂ => wpAny (model X.prog X.w) X.A (setFlight e none) (fun _ s₃ =>
    wpAny (model X.prog X.w) X.A (handleBy e X.env [.ExceptHandler (some (.Name x np)) (some n) (b₀ :: suite) pos']) (SP X pins D) X.xe s₃) X.xe s₂) X.xe s₁) ?_ PassesOwn.looking).run [] s σ H D (I.toTry _) h
  · refine wpAny_mono body_runs (fun f s1 q => ?_) fun _ _ z => z
    cases f with
    | next =>
      obtain ⟨σ1, H1, J, q⟩ := q
      exact wpAny_execs_nil ⟨σ1, H1, J.ofTry ok, q⟩
    | ret u =>
      obtain ⟨v, σ1, H1, J, r, q⟩ := q
      exact ⟨v, σ1, H1, J.ofTry ok, r, q⟩
    | _ =>
      obtain ⟨σ1, H1, J, q⟩ := q
      exact ⟨σ1, H1, J.ofTry ok, q⟩
  · rintro _ s' ⟨a, B, sI, pins', σ1, H1, cls, d, rfl, J', nb, up, sky, na, os, ag, b, hb1, yes, no⟩
    have J := J'.ofTry ok
    rw [hs] at sky
    show wpAny (model X.prog X.w) X.A (noteFrame (.ref a) X.env) _ _ _
    refine Sky.land Zc.steady frames hf sky fun h3 fl up3 => ?_
    obtain ⟨oe3, vs3, he3, hz3, hd3⟩ := fl.there
    have nfr : a ∉ frs (X.env :: X.outer) := fun hm => by
      obtain ⟨_, o', e', hnf⟩ := fl.2.2.1.mem hm
      rw [he3] at e'; cases e'
      exact hnf _ hd3
    have nL : a ≠ X.env.locals := fun z => nfr (List.mem_filterMap.mpr ⟨X.env, List.mem_cons_self, by rw [hf, z]⟩)
    have nF : a ∉ X.fs := fun hm => by
      obtain ⟨e, he, q⟩ := List.mem_filterMap.mp hm
      exact nfr (List.mem_filterMap.mpr ⟨e, List.mem_cons_of_mem _ he, q⟩)
    have nB : B.get? a = none := fl.2.1
    have inB : ∀ b o, sI.heap.get? b = some o → b ≠ a ∨ a ∈ frs X.stack := fun b o e => by
      by_cases hm : b ∈ frs X.stack
      · by_cases z : b = a
        · exact .inr (z ▸ hm)
        · exact .inl z
      · refine .inl fun z => ?_
        have := nb b o e hm
        rw [z, nB] at this
        cases this
    have nst : a ∉ frs X.stack := by rw [hs]; exact nfr
    have ne : ∀ b o, sI.heap.get? b = some o → b ≠ a := fun b o e => (inB b o e).resolve_right nst
    have n0 : X.s_0.heap.get? a = none := by
      cases e : X.s_0.heap.get? a with
      | none => rfl
      | some o =>
        obtain ⟨o', e'⟩ := J.base.there a o e (by rw [hx]; exact List.not_mem_nil)
        exact absurd rfl (ne a o' e')
    have npin : ∀ p ∈ X.pn ++ pins, p.1 ≠ a := fun p hp => ne p.1 p.2 (J'.pin p (List.mem_append_left _ hp)).1
    have J3 : Inv X pins σ1 H1 { s' with heap := h3 } := J.landed nb fl.1 (up.trans up3) os ag
    have S3 := J3.suite he3 hd3 na nL nF
    refine wpAny_handleBy_cons (codeAny_handlers_test ?_) (by intro q; cases q)
    have looks : PySem.W.Looks (model X.prog X.w) h3 (typeOf (.ref a)) cls := fun A Q E s k q => wpAny_typeOf_ref (k _ _ he3) (by rw [hz3.1]; exact q)
    have asks := PySem.W.exm_one (M := model X.prog X.w) J3.kIn looks hb1
    have name : ∀ {Q E : Value → Shared → Prop}, Q c { s' with heap := h3 } → wpAny (model X.prog X.w) (X.A.mark (some (.ref a))) (eval (.Name x np) X.env) Q E { s' with heap := h3 } := fun {Q E} q => by
      rcases hc with ⟨g, dbg, hm | ⟨hm, hv, hnn⟩⟩
      · exact ld_glob (X := X.suite a ((a, oe3) :: (X.pn ++ pins))) S3 g hm q dbg
      · exact ld_blt (X := X.suite a ((a, oe3) :: (X.pn ++ pins))) S3 g hm hv q hnn dbg
    refine name (asks.here ?_)
    cases b with
    | false =>
      show wpAny _ X.A (handleBy (.ref a) X.env []) _ _ _
      refine wpAny_handleBy_nil ?_
      obtain ⟨_, _, _, oe, vs, t, ot, tr, he, hz, hd, h1, hr⟩ := id fl
      unfold PySem.passOn
      refine wpAny_bind (wpAny_field he hd h1 ?_)
      rw [if_neg (show ¬ ((Value.ref t == Value.none) = true) from by simp)]
      have goes : wpAny (model X.prog X.w) X.A (setFlight (.ref a) X.env.frame) (fun _ s4 => wpAny (model X.prog X.w) X.A (throw (.ref a) : Sem Flow) (SP X pins D) X.xe s4) X.xe { s' with heap := h3 } := by
        rw [hf]
        exact HandSPX.setFlight_upZ fl fun h4 held up4 => wpAny_throw (tk _ _ ⟨a, B, sI, pins, σ1, H1, cls, d, rfl, J, nb, (up.trans up3).trans up4, .inr (.inr (by rw [hs]; exact held)), na, os, ag, no rfl⟩)
      first
        | exact wpAny_bind (wpAny_pure (wpAny_bind goes))
        | exact wpAny_bind goes
    | true =>
      refine codeAny_handlers_suite_as (HandSPX.lands_againZ fl fun h4 fl4 up4 => ?_)
      obtain ⟨oe4, vs4, he4, hz4, hd4⟩ := fl4.there
      have J4 : Inv X pins σ1 H1 { s' with heap := h4 } := J.landed nb fl4.1 ((up.trans up3).trans up4) os ag
      have S4 := J4.suite he4 hd4 na nL nF
      refine store_ok (X := X.suite a ((a, oe4) :: (X.pn ++ pins))) (v := .ref a) S4 hN hi (.inl hln) rfl (fun s5 S5 => ?_) (.inr hln)
      refine wpAny_mono ((hsu a oe4 cls d (X.pn ++ pins) hz4 ⟨_, hd4⟩).run [] s5 _ H1 _ S5 (yes rfl a na)) (fun f s6 q => ?_) (fun _ _ z => False.elim z)
      have pinned : ∀ {σ6 : L2.St} {H6 : Hp}, Inv (X.suite a ((a, oe4) :: (X.pn ++ pins))) [] σ6 H6 s6 → Inv X ((a, oe4) :: pins) σ6 H6 s6 := fun {σ6 H6} S6 =>
        ⟨ok, S6.os, S6.bare, S6.base, S6.loc, S6.cell, S6.free, S6.freeC, fun p hp => S6.pin p (List.mem_append_left _ (by
          rcases List.mem_append.mp hp with m | m
          · exact List.mem_cons_of_mem _ (List.mem_append_left _ m)
          · rcases List.mem_cons.mp m with m | m
            · rw [m]; exact List.mem_cons_self
            · exact List.mem_cons_of_mem _ (List.mem_append_right _ m))), S6.hok, S6.len⟩
      have less : ∀ {σ7 : L2.St} {H7 : Hp} {s7 : Shared}, Inv X ((a, oe4) :: pins) σ7 H7 s7 → Inv X pins σ7 H7 s7 := fun {σ7 H7 s7} J7 =>
        ⟨ok, J7.os, J7.bare, J7.base, J7.loc, J7.cell, J7.free, J7.freeC, fun p hp => J7.pin p (by
          rcases List.mem_append.mp hp with m | m
          · exact List.mem_append_left _ m
          · exact List.mem_append_right _ (List.mem_cons_of_mem _ m)), J7.hok, J7.len⟩
      cases f with
      | next =>
        obtain ⟨σ6, H6, S6, q6⟩ := q
        exact gone_ok (pinned S6) hN hi hln fun s7 J7 => ⟨_, _, keep_exc J7 hz4 ⟨_, hd4⟩ n0 npin, q6 (J7.pin (a, oe4) (List.mem_append_right _ List.mem_cons_self)).2.1⟩
      | ret u =>
        obtain ⟨v6, σ6, H6, S6, r6, q6⟩ := q
        exact gone_ok (pinned S6) hN hi hln fun s7 J7 => ⟨_, _, _, less J7, r6, q6⟩
      | brk =>
        obtain ⟨σ6, H6, S6, q6⟩ := q
        exact gone_ok (pinned S6) hN hi hln fun s7 J7 => ⟨_, _, less J7, q6⟩
      | cont =>
        obtain ⟨σ6, H6, S6, q6⟩ := q
        exact gone_ok (pinned S6) hN hi hln fun s7 J7 => ⟨_, _, less J7, q6⟩
end
/-! ### over trees -/
def keepX (a : Addr) (od : Option Addr) (C : Addr) : Sl → Sl
  | .exc a' od' ns ds => if a' = a ∧ od' = od then .val (.exn C ns ds) else .exc a' od' ns ds
  | s => s
theorem Wd.keepx {K : PySem.W.Frag} {M : Addr → Prop} {H : Hp} {σ : L2.St} {ρ : List Sl} {z : Z} {O : Nat → Option Addr} (w : Wd K M H σ ρ z O) {a C : Addr} {od : Option Addr} (hn : ¬ NN M z O a) (h : H a = some (ExT C od a)) :
    Wd K M H σ (ρ.map (keepX a od C)) z O := by
  refine ⟨by rw [List.length_map]; exact w.len, w.al, w.pot, w.pm, w.ow, fun i s hs => ?_, fun i hi => w.out i (by rw [List.getElem?_map] at hi; exact Option.map_eq_none_iff.mp hi)⟩
  rw [List.getElem?_map] at hs
  obtain ⟨s0, e, rfl⟩ := Option.map_eq_some_iff.mp hs
  have q := w.sl i s0 e
  unfold keepX
  split
  · rename_i a' od' ns ds
    by_cases hh : a' = a ∧ od' = od
    · rw [if_pos hh]
      obtain ⟨rfl, rfl⟩ := hh
      obtain ⟨q1, q2, q3⟩ := q
      refine ⟨q1, _, q2, ?_⟩
      rw [Rep]
      cases od' with
      | none =>
        obtain ⟨rfl, rfl⟩ := q3
        exact ⟨a', none, [], rfl, hn, h, rfl, fun dd z => (nomatch z), fun _ => rfl, Reps.nil⟩
      | some dd =>
        obtain ⟨p1, p2, vs, p3, p4⟩ := q3
        exact ⟨a', some dd, vs, rfl, hn, h, p2, fun d z => by cases z; exact ⟨p1, p3⟩, fun z => (nomatch z), p4⟩
    · rw [if_neg hh]
      exact q
  · exact q
/-- try, the exception kept behind it -/
def dTryK (K : PySem.W.Frag) (c : Value) (i : Nat) (body : DTS) (suite : Addr → Value → Option Addr → DTS) : DTS := fun R ρ z => body { R with ex := fun C ns ds ρ' z' => ∃ b, PySem.W.exmOne K (.ref C) c = some b ∧
  (b = true → ∀ a od, (ns ≠ [] → od ≠ none) → suite a (.ref C) od { R with nx := fun ρ2 z2 => R.nx ((ρ2.set i .any).map (keepX a od C)) z2, bk := fun ρ2 z2 => R.bk (ρ2.set i .any) z2, ct := fun ρ2 z2 => R.ct (ρ2.set i .any) z2 } (ρ'.set i (.exc a od ns ds)) z') ∧ (b = false → R.ex C ns ds ρ' z') } ρ z
section
variable {X : Cx} {W : WX} {e : Expr} {pos : Pos}
theorem ds_tryK {x n : Str} {c : Value} {i : Nat} {body suite : List Stmt} {b₀ : Stmt} {np pos' : Pos} {tb : DTS} {ts : Addr → Value → Option Addr → DTS} {Wout : WX} (hx : X.ex = []) (hs : X.stack = X.env :: X.outer) (hf : X.env.frame = some X.env.locals) (hN : X.N.Nodup) (hi : X.N[i]? = some n) (hln : X.env.kindOf n = some .local) (hc : Names X x c) (tk : Takes X Wout)
    (hb : ∀ (W : WX) (pn : List (Addr × Obj)) (xe : Value → Shared → Prop), Takes (X.tr pn xe) W → PassesOwn (model X.prog X.w) X.A X.env xe → DSs (X.tr pn xe) W body tb)
    (hsu : ∀ (a : Addr) (oe : Obj) (cls : Value) (d : Option Addr) (pn : List (Addr × Obj)), Zc cls d oe → (∃ vs, oe.data = .fields vs) → DSs (X.suite a ((a, oe) :: pn)) Wout (b₀ :: suite) (ts a cls d)) :
    DS X Wout (.Try body [.ExceptHandler (some (.Name x np)) (some n) (b₀ :: suite) pos'] [] [] pos) (dTryK X.K c i tb ts) := by
  refine ps_to (ps_try_keep hx hs hf hN hi hln hc tk (tb := fun W => US X.K W tb) (ts := fun a cls d => US X.K Wout (ts a cls d)) hb hsu) fun D σ H ⟨M, ρ, z, O, R, w, h, k⟩ => ?_
  refine ⟨M, ρ, z, O, _, w, h, k.nx, k.bk, k.ct, k.rt, fun C ns ds ρ' z' od H' O' σ' ⟨b, e, h1, h2⟩ g w' ex => ⟨b, e, fun hbt a ha => ?_, fun hbf => k.ex C ns ds ρ' z' od H' O' σ' (h2 hbf) g w' ex⟩⟩
  have kk := k.after (g.trans (GoE.off (i := i)).toGo)
  refine ⟨M, _, z', off O' i, _, w'.setx i ex, h1 hbt a od (fun hn e => by subst e; exact hn ex.1), ?_⟩
  refine ⟨fun ρ2 z2 σ2 H2 O2 h g w na => ?_, fun ρ2 z2 σ2 H2 O2 h g w => kk.bk _ z2 _ H2 _ h (g.trans GoE.off.toGo) (w.unset i), fun ρ2 z2 σ2 H2 O2 h g w => kk.ct _ z2 _ H2 _ h (g.trans GoE.off.toGo) (w.unset i), kk.rt, kk.ex⟩
  obtain ⟨w3, g3⟩ := w.grow (same_new (o := ExT C od a) na)
  exact kk.nx _ z2 _ _ _ h (g.trans (g3.toGo.trans (GoE.off (i := i)).toGo)) ((w3.unset i).keepx (fun q => w.alloc a q.off na) upd_same)
/-- y = e, e the exception caught -/
def dSetX (i j : Nat) : DTS := fun R ρ z => match ρ[i]? with | some (.exc a od ns ds) => R.nx (ρ.set j (.exc a od ns ds)) z | _ => False
theorem ds_setX {i j : Nat} {x y : Str} {px py : Pos} (hN : X.N.Nodup) (hi : X.N[i]? = some x) (hj : X.N[j]? = some y) (hy : Loc X.env.scope y) (hv : Vis X.env.scope x := by first | exact Or.inl rfl | exact Or.inr (Or.inl rfl) | exact Or.inr (Or.inr rfl))
    (hs : swapsWith (.Name x px) (some (.Name y py)) pos.line X.env = pure false := by rfl)
    (hf : X.fn y = true ∨ X.env.scope.names.lookup y = some .local := by first | exact .inl rfl | exact .inr rfl | assumption) (hd : (x == ("__debug__" : Str)) = false := by decide)
    (hcd : (x == ("__classdict__" : Str)) = false := by decide) : DS X W (.Assign [.Name y py] (.Name x px) pos) (dSetX i j) := ps_to (ps_set hN hj hy (pe_var hi hv hd hcd) hs hf) fun D σ H ⟨M, ρ, z, O, R, w, h, k⟩ => by
  unfold dSetX at h
  split at h
  · rename_i a od ns ds e
    obtain ⟨q1, q2, q3⟩ := w.sl i _ e
    exact ⟨_, join_some q2, k.nx _ z _ H _ h (GoE.off (i := j)).toGo (w.setx j q3)⟩
  · exact h.elim
theorem pe_xfT {C : Addr} {te : TE} {n : Str} (T : XfC X.K C) (hno : PySem.W.findIn X.K (.ref C) n = some none) (he : PE X e te) (hb : attributeBase e n X.env (eval e X.env) = eval e X.env) :
    PE X (.Attribute e n pos) (fun σ H Q => te σ H fun x H1 => ∃ (a dd : Addr) (fs : List (Str × V)) (v : V), x = .ref a ∧ H1 a = some (ExT C (some dd) a) ∧ H1 dd = some (.xd fs) ∧ fs.lookup n = some v ∧ Q v H1) := by
  constructor
  intro pins s σ H Q I h
  refine attr_of hb (thn (he.run pins s σ H _ I h) ?_)
  rintro u s1 ⟨x, H1, I1, rx, a, dd, fs, v, rfl, ea, ed, l, q⟩
  obtain rfl : u = Value.ref a := rx
  obtain ⟨⟨oe, ha, hz, vs, hd⟩, _, _⟩ := I1.hok a _ ea
  obtain ⟨mA, hns, hr⟩ : ObjOk X.prog X.w H1 s1.heap dd (.xd fs) := I1.hok dd _ ed
  obtain ⟨od, ho, hl⟩ := lookIn_ns hns
  obtain ⟨u, hu, ru⟩ := RelO.some_of (v := v) (o := mA n) (by rw [← l]; exact hr n)
  have J : PySem.W.InstAt s1.heap a oe C (some od) := ⟨ha, hz.1, by unfold PySem.W.notCls; rw [hd] <;> rfl, by rw [hz.2]; exact ho⟩
  exact HandSPX.exc_get I1.kIn J T.ga T.gg T.exC (PySem.W.findObj_own T.hdC hno rfl (by rw [hl, hu])) (handed_of ru) ⟨v, H1, I1.tok _, ru, q⟩
def xfD (C : Addr) (f : Str) : D → (D → Prop) → Prop
  | .exn C' ns ds, k => C' = C ∧ ns ≠ [] ∧ ∃ d, ((ns.zip ds).reverse).lookup f = some d ∧ k d
  | _, _ => False
theorem de_xfV {C : Addr} {t : DX D} {f : Str} (T : XfC X.K C) (hno : PySem.W.findIn X.K (.ref C) f = some none) (he : DP X W e t) (hb : attributeBase e f X.env (eval e X.env) = eval e X.env) :
    DE X W (.Attribute e f pos) (dUn (xfD C f) t) := pe_to (pe_xfT T hno he hb) fun σ H Q ⟨M, ρ, z, O, R, RX, w, h, x, k⟩ =>
  ⟨M, ρ, z, O, _, RX, w, h, x, fun d ρ' z' v H' O' hd g w' r => by
    unfold xfD at hd
    split at hd
    · obtain ⟨rfl, hne, d, e2, hd⟩ := hd
      obtain ⟨a, od, vs, rfl, q1, q2, q3, q4, q5⟩ := r.exn
      cases od with
      | none => exact absurd (q4 rfl) hne
      | some dd =>
        obtain ⟨v, p5, p6⟩ := lookup_reps_rev q2 q5 e2
        exact ⟨a, dd, _, v, rfl, q1, q3 dd rfl, p5, k d ρ' z' v H' O' hd g w' p6⟩
    · exact hd.elim⟩
end
/-! steps -/
theorem ap_dTryK (K : PySem.W.Frag) (c : Value) (i : Nat) (body : DTS) (suite : Addr → Value → Option Addr → DTS) (R : DEnds) (s0 : Sl) (ρ0 : List Sl) (z : Z) : dTryK K c i body suite R (s0 :: ρ0) z = body { nx := R.nx, rt := R.rt, bk := R.bk, ct := R.ct, ex := fun C ns ds ρ' z' => ∃ b, PySem.W.exmOne K (.ref C) c = some b ∧
  (b = true → ∀ a od, (ns ≠ [] → od ≠ none) → suite a (.ref C) od { nx := fun ρ2 z2 => R.nx ((ρ2.set i .any).map (keepX a od C)) z2, rt := R.rt, bk := fun ρ2 z2 => R.bk (ρ2.set i .any) z2, ct := fun ρ2 z2 => R.ct (ρ2.set i .any) z2, ex := R.ex } (ρ'.set i (.exc a od ns ds)) z') ∧ (b = false → R.ex C ns ds ρ' z') } (s0 :: ρ0) z := rfl
theorem ap_dSetX (i j : Nat) (R : DEnds) (s0 : Sl) (ρ0 : List Sl) (z : Z) : dSetX i j R (s0 :: ρ0) z = match (s0 :: ρ0)[i]? with | some (.exc a od ns ds) => R.nx ((s0 :: ρ0).set j (.exc a od ns ds)) z | _ => False := rfl
theorem kx_any (a : Addr) (od : Option Addr) (C : Addr) : keepX a od C .any = .any := rfl
theorem kx_val (a : Addr) (od : Option Addr) (C : Addr) (d : D) : keepX a od C (.val d) = .val d := rfl
theorem kx_own (a : Addr) (od : Option Addr) (C : Addr) (d : List D) : keepX a od C (.own d) = .own d := rfl
theorem kx_exc (a : Addr) (od : Option Addr) (C : Addr) (ns : List Str) (ds : List D) : keepX a od C (.exc a od ns ds) = .val (.exn C ns ds) := if_pos ⟨rfl, rfl⟩
theorem e_xfD (C : Addr) (f n : Str) (ns : List Str) (ds : List D) (k : D → Prop) : xfD C f (.exn C (n :: ns) ds) k = ∃ d, (((n :: ns).zip ds).reverse).lookup f = some d ∧ k d :=
  propext ⟨fun ⟨_, _, h⟩ => h, fun h => ⟨rfl, List.cons_ne_nil _ _, h⟩⟩
theorem e_nonX (C : Addr) (ns : List Str) (ds : List D) : isNonD (.exn C ns ds) = false := rfl
end Lay

set_option Elab.async false
set_option linter.all false
set_option maxRecDepth 100000
set_option maxHeartbeats 2000000
/-! ranges of whole numbers of any size -/
namespace Lay
open PySem PySem.Spec PyProof.Rows L2
section
variable {X : Cx} {W : WX} {tg a b : Expr}
def iRngW (ta : TA) : TI := fun σ H R => ta σ H fun vs H1 => ∃ i j : Int, vs = [.int i, .int j] ∧ R (Itc i 1 (j - i).toNat) H1
def rngW : List D → (List D → Prop) → Prop
  | [.int i, .int j], k => k (rngC i 1 (j - i).toNat)
  | _, _ => False
theorem e_rngW (i j : Int) (k : List D → Prop) : rngW [.int i, .int j] k = k (rngC i 1 (j - i).toNat) := rfl
end
end Lay

set_option Elab.async false
set_option linter.all false
set_option maxRecDepth 100000
set_option maxHeartbeats 2000000
namespace Lay
open PySem PySem.Spec PyProof.Rows L2
section
variable {X : Cx} {W : WX} {e a b : Expr} {pos : Pos}
/-- x.extend(e), x an own list, e a list -/
def dExtend (i : Nat) (t : DX D) : DTS := fun R ρ z => ∃ ds0, ρ[i]? = some (.own ds0) ∧ t ρ z (fun d ρ' z' => match d with | .lst es => (match ρ'[i]? with | some (.own ds) => ds.length + es.length ≤ sizeLine ∧ R.nx (ρ'.set i (.own (ds ++ es))) z' | _ => False) | _ => False) R.ex
end
def extD (o : Option Sl) (d : D) (k : List D → Prop) : Prop := match o, d with
  | some (.own ds), .lst es => ds.length + es.length ≤ sizeLine ∧ k (ds ++ es)
  | _, _ => False
theorem ap_dExtend (i : Nat) (t : DX D) (R : DEnds) (s0 : Sl) (ρ0 : List Sl) (z : Z) : dExtend i t R (s0 :: ρ0) z = (∃ ds0, (s0 :: ρ0)[i]? = some (.own ds0) ∧ t (s0 :: ρ0) z (fun d ρ' z' => extD (ρ'[i]?) d fun es => R.nx (ρ'.set i (.own es)) z') R.ex) := by
  unfold dExtend extD
  refine congrArg (fun q => ∃ ds0, (s0 :: ρ0)[i]? = some (.own ds0) ∧ t (s0 :: ρ0) z q R.ex) (funext fun d => funext fun ρ' => funext fun z' => ?_)
  cases d <;> cases ρ'[i]? <;> first | rfl | (rename_i s; cases s <;> rfl)
theorem e_extD (ds es : List D) (k : List D → Prop) : extD (some (.own ds)) (.lst es) k = (ds.length + es.length ≤ sizeLine ∧ k (ds ++ es)) := rfl
end Lay

set_option Elab.async false
set_option linter.all false
set_option maxRecDepth 100000
set_option maxHeartbeats 2000000
namespace Lay
open PySem PySem.Spec PyProof.Rows L2
section
variable {X : Cx} {W : WX} {e a b : Expr} {pos : Pos}
/-! ### max(xs), min(xs) of a list of whole numbers -/
def bestD (r : Int → Int → Prop) : FnD
  | [.lst ds], k => ∃ ns : List Int, ds = ns.map D.int ∧ 0 < ns.length ∧ ∀ m, m ∈ ns → (∀ y, y ∈ ns → r y m) → k (.int m)
  | _, _ => False
theorem ap_best (r : Int → Int → Prop) (ds : List D) (k : D → Prop) : bestD r [.lst ds] k = ∃ ns : List Int, ds = ns.map D.int ∧ 0 < ns.length ∧ ∀ m, m ∈ ns → (∀ y, y ∈ ns → r y m) → k (.int m) := rfl
end
end Lay

set_option Elab.async false
set_option linter.all false
set_option maxRecDepth 100000
set_option maxHeartbeats 2000000
namespace Lay
open PySem PySem.Spec PyProof.Rows L2
section
variable {X : Cx} {W : WX} {e a b tg o : Expr} {es : List Expr} {pos p : Pos}
/-! ### for x in reversed(a list or a tuple) -/
def revF : D → (List D → Prop) → Prop
  | .lst ds, k => k ds.reverse
  | .rol ds, k => k ds.reverse
  | .tup ds, k => k ds.reverse
  | _, _ => False
def dItR (t : DX D) : DX (List D) := fun ρ z R RX => t ρ z (fun d ρ' z' => revF d fun ds => R ds ρ' z') RX
theorem ap_dItR (t : DX D) (s0 : Sl) (ρ0 : List Sl) (z : Z) (R : List D → List Sl → Z → Prop) (RX : KX) : dItR t (s0 :: ρ0) z R RX = t (s0 :: ρ0) z (fun d ρ' z' => revF d fun ds => R ds ρ' z') RX := rfl
theorem e_revF1 (ds : List D) (k : List D → Prop) : revF (.lst ds) k = k ds.reverse := rfl
theorem e_revF2 (ds : List D) (k : List D → Prop) : revF (.rol ds) k = k ds.reverse := rfl
theorem e_revF3 (ds : List D) (k : List D → Prop) : revF (.tup ds) k = k ds.reverse := rfl
/-! ### try: .. except c: .. -/
def dTryN (K : PySem.W.Frag) (c : Value) (body suite : DTS) : DTS := fun R ρ z => body { nx := R.nx, rt := R.rt, bk := R.bk, ct := R.ct, ex := fun C ns ds ρ' z' => ∃ b, PySem.W.exmOne K (.ref C) c = some b ∧ (b = true → suite R ρ' z') ∧ (b = false → R.ex C ns ds ρ' z') } ρ z
theorem ap_dTryN (K : PySem.W.Frag) (c : Value) (body suite : DTS) (R : DEnds) (s0 : Sl) (ρ0 : List Sl) (z : Z) : dTryN K c body suite R (s0 :: ρ0) z =
    body { nx := R.nx, rt := R.rt, bk := R.bk, ct := R.ct, ex := fun C ns ds ρ' z' => ∃ b, PySem.W.exmOne K (.ref C) c = some b ∧ (b = true → suite R ρ' z') ∧ (b = false → R.ex C ns ds ρ' z') } (s0 :: ρ0) z := rfl
/-! ### an own exception without its own __init__ -/
structure ExcUn (K : PySem.W.Frag) (mg : Str → Option Value) (x : Str) (C : Addr) : Prop where
  q : PySem.W.excIn K C [.type "ValueError", .type "Exception", .type "BaseException", .type "object"] "ValueError.__new__" = true
  g : mg x = some (.ref C)
  k : PySem.W.keepIn K (.ref C) = true
  b : PySem.W.subIn K (.ref C) (.type "BaseException") = some true
  t : PySem.W.typeIn K (.ref C) = some (.type "type")
  te : PySem.W.exmOne K (.ref C) (.ref C) = some true
theorem ExcUn.mgx {K : PySem.W.Frag} {mg : Str → Option Value} {x : Str} {C : Addr} (E : ExcUn K mg x C) : mg x = some (.ref C) := E.g
def dRaiseU (C : Addr) : DTS := fun R ρ z => R.ex C [] [] ρ z
theorem ExcUn.dRaise {x m : Str} {C : Addr} {j : Nat} {p2 pos2 : Pos} (E : ExcUn X.K X.mg x C) (hc : X.calm = true) (hG : Gl X x) (tk : Takes X W) (hdb : (x == ("__debug__" : Str)) = false := by decide) :
    DS X W (.Raise (some (.Call (.Name x p) [.Constant (.str m) j p2] [] pos)) none pos2) (dRaiseU C) :=
  ps_to (ps_raise hc tk (pmk_own PySem.F.excBase_ValueError E.q E.g E.k (raises_own E.b E.t) hG hdb)) fun D σ H ⟨M, ρ, z, O, R, w, h, k⟩ => k.ex C [] [] ρ z none H O σ h .refl w ⟨rfl, rfl⟩
theorem ap_dRaiseU (C : Addr) (R : DEnds) (s0 : Sl) (ρ0 : List Sl) (z : Z) : dRaiseU C R (s0 :: ρ0) z = R.ex C [] [] (s0 :: ρ0) z := rfl
/-! ### a dict of the module with text keys -/
structure KTab (K : PySem.W.Frag) (w : World) (d : Addr) (tab : List (Str × Option D)) : Prop where
  at_ : ∃ es n, KDict K w d es n
  get : ∀ q ∈ tab, ∃ r, PySem.W.nsIn K d q.1 = some r ∧ ((q.2 = none ∧ r = none) ∨ ∃ x u v, q.2 = some x ∧ r = some u ∧ RelV v u ∧ ∀ N H, Rep K N H x v)
def kinD (d : Addr) (tab : List (Str × Option D)) (f : Bool → Bool) : Op2 := fun d1 d2 k => ∃ z o, d1 = .str z ∧ d2 = .adr d ∧ (z, o) ∈ tab ∧ k (.bl (f o.isSome))
theorem KTab.sm {K : PySem.W.Frag} {w : World} {d : Addr} {tab : List (Str × Option D)} (T : KTab K w d tab) {z : Str} {o : Option D} (m : (z, o) ∈ tab) : ∃ r, PySem.W.nsIn K d z = some r ∧ r.isSome = o.isSome := by
  obtain ⟨r, e, h⟩ := T.get _ m
  refine ⟨r, e, ?_⟩
  rcases h with ⟨h1, h2⟩ | ⟨x, u, v, h1, h2, _⟩
  · have h1' : o = none := h1
    rw [h1', h2]; rfl
  · have h1' : o = some x := h1
    rw [h1', h2]; rfl
def kixD (d : Addr) (tab : List (Str × Option D)) : Op2 := fun d1 d2 k => ∃ z x, d1 = .adr d ∧ d2 = .str z ∧ (z, some x) ∈ tab ∧ k x
/-! ### x.split(y) as a new list -/
def splitN : Str → List D → (List D → Prop) → Prop
  | z, [.str y], k => (y.length == 0) = false ∧ z.length + 2 ≤ sizeLine ∧ k ((Txt.split z y).map .str)
  | _, _, _ => False
def dSplitN (to : DX D) (t : DX (List D)) : DX (List D) := fun ρ z R RX => to ρ z (fun d ρ1 z1 => ∃ y, d = .str y ∧ t ρ1 z1 (fun ds ρ2 z2 => splitN y ds fun es => R es ρ2 z2) RX) RX
theorem ap_dSplitN (to : DX D) (t : DX (List D)) (s0 : Sl) (ρ0 : List Sl) (z : Z) (R : List D → List Sl → Z → Prop) (RX : KX) : dSplitN to t (s0 :: ρ0) z R RX = to (s0 :: ρ0) z (fun d ρ1 z1 => ∃ y, d = .str y ∧ t ρ1 z1 (fun ds ρ2 z2 => splitN y ds fun es => R es ρ2 z2) RX) RX := rfl
theorem e_splitN (z y : Str) (k : List D → Prop) : splitN z [.str y] k = ((y.length == 0) = false ∧ z.length + 2 ≤ sizeLine ∧ k ((Txt.split z y).map .str)) := rfl
/-! ### x[i] = e, x an own list -/
def setD (s : Option Sl) (i d : D) (k : List D → Prop) : Prop := match s, i with
  | some (.own ds), .int j => ∃ n, ixN ds.length j = some n ∧ k (ds.set n d)
  | _, _ => False
def dSetIx (i : Nat) (te ti : DX D) : DTS := fun R ρ z => te ρ z (fun d ρ1 z1 => ∃ ds0, ρ1[i]? = some (.own ds0) ∧ ti ρ1 z1 (fun j ρ2 z2 => setD (ρ2[i]?) j d fun es => R.nx (ρ2.set i (.own es)) z2) R.ex) R.ex
theorem Reps.set {K : PySem.W.Frag} {N : Addr → Prop} {H : Hp} {d : D} {v : V} (r1 : Rep K N H d v) : ∀ {ds : List D} {vs : List V} (n : Nat), Reps K N H ds vs → Reps K N H (ds.set n d) (vs.set n v)
  | [], vs, n, r => by
    rw [Reps] at r; subst r
    rw [List.set_nil, List.set_nil]; exact .nil
  | d0 :: ds, vs, 0, r => by
    rw [Reps] at r
    obtain ⟨v0, q, rfl, r2, r3⟩ := r
    exact .cons r1 r3
  | d0 :: ds, vs, n + 1, r => by
    rw [Reps] at r
    obtain ⟨v0, q, rfl, r2, r3⟩ := r
    exact .cons r2 (Reps.set r1 n r3)
theorem ds_setIx {i : Nat} {x : Str} {te ti : DX D} {ie : Expr} {xpos spos : Pos} (hN : X.N[i]? = some x) (he : DE X W e te) (hi : DE X W ie ti)
    (hv : Vis X.env.scope x := by first | exact Or.inl rfl | exact Or.inr (Or.inl rfl) | exact Or.inr (Or.inr rfl)) (hd : (x == ("__debug__" : Str)) = false := by decide)
    (hcd : (x == ("__classdict__" : Str)) = false := by decide)
    (hs : swapsWithSole [.Subscript (.Name x xpos) ie spos] e pos.line X.env = pure false := by rfl) (hw : swappedStores [.Subscript (.Name x xpos) ie spos] e X.env = pure none := by rfl)
    (h1 : (assignEach [.Subscript (.Name x xpos) ie spos] X.env).map (·.2) = [assign (.Subscript (.Name x xpos) ie spos) X.env] := by rfl)
    (ha : ∀ v, assign (.Subscript (.Name x xpos) ie spos) X.env v = (do
      let ov ← holding [v] (eval (.Name x xpos) X.env)
      let iv ← holding [v, ov] (eval ie X.env)
      standAt spos
      holding [v, ov, iv] (setItem ov iv v)
      release [v, ov, iv] []) := by intro _; rfl) :
    DS X W (.Assign [.Subscript (.Name x xpos) ie spos] e pos) (dSetIx i te ti) := by
  refine ps_to (ps_asg he (pg_sub (pe_var hN hv hd hcd) hi set_list ha) hs hw h1) fun D σ H ⟨M, ρ, z, O, R, w, h, k⟩ => ?_
  refine ⟨M, ρ, z, O, _, R.ex, w, h, k.ex, fun d ρ1 z1 v H1 O1 ⟨ds0, h0, hd1⟩ g1 w1 r1 => ?_⟩
  obtain ⟨a0, vs0, q1, q2, q3, q4⟩ := w1.sl i _ h0
  have k1 := k.after g1.toGo
  refine ⟨_, join_some q2, M, ρ1, z1, O1, _, R.ex, w1, hd1, k1.ex, fun j ρ2 z2 u H2 O2 hd2 g2 w2 r2 => ?_⟩
  unfold setD at hd2
  split at hd2
  · rename_i ds jj e1
    obtain ⟨n, hn, hd2⟩ := hd2
    obtain ⟨a, vs, p1, p2, p3, p4⟩ := w2.sl i _ e1
    have ea : a = a0 := by rw [q2] at p2; cases p2; rfl
    subst ea
    obtain rfl := RepP.int (z := z2) (.inl r2)
    refine ⟨a, vs, jj, n, rfl, rfl, p3, by rw [← p4.length]; exact hn, ?_⟩
    have na : ∀ (c : Addr) (o : HO), H2 c = some o → ¬ NN M z2 O2 c → (upd H2 a (.lst (vs.set n v))) c = some o := fun c o e nn => by rw [upd_ne (fun q => nn (.inr (.inr ⟨i, by rw [q]; exact p1⟩)))]; exact e
    have rv := Rep.mono g2.ext _ _ r1
    obtain ⟨w3, g3⟩ := w2.wrote p1 (o := .lst (vs.set n v)) (s := .own (ds.set n d)) (lt_of_get e1) ⟨a, vs.set n v, rfl, p2, upd_same, Reps.mono ⟨na, fun b h => .inl h⟩ _ _ (Reps.set rv n p4)⟩
    exact k1.nx _ z2 σ _ O2 hd2 (g2.toGo.trans g3) w3
  · exact hd2.elim
theorem ap_dSetIx (i : Nat) (te ti : DX D) (R : DEnds) (s0 : Sl) (ρ0 : List Sl) (z : Z) : dSetIx i te ti R (s0 :: ρ0) z = te (s0 :: ρ0) z (fun d ρ1 z1 => ∃ ds0, ρ1[i]? = some (.own ds0) ∧ ti ρ1 z1 (fun j ρ2 z2 => setD (ρ2[i]?) j d fun es => R.nx (ρ2.set i (.own es)) z2) R.ex) R.ex := rfl
theorem e_setD (ds : List D) (j : Int) (d : D) (k : List D → Prop) : setD (some (.own ds)) (.int j) d k = ∃ n, ixN ds.length j = some n ∧ k (ds.set n d) := rfl
end
/-! ### defs with defaults, called by less -/
theorem FunD_kbL {K : PySem.W.Frag} {x qual : Str} {params : Arguments} {body : List Stmt} {scope : Scope} {dvs : List V} {f : Addr} {fd : FuncData} {ps : List Str} (F : FunD K x qual params body scope dvs [] f fd) (n : Nat) (ks : List Str)
    (g : List Value → List Value → List Value → List Value) (gV : List V → List V → List V) (hd : dvs ≠ [])
    (hrel : ∀ (vs zs : List V) (us its ws : List Value), vs.length = n → zs.length = ks.length → Vals vs us → Vals dvs its → Vals zs ws → Vals (gV vs zs) (g us its ws))
    (h : ∀ (T : Addr) (kV doc pm : Value) (an : Option Addr) (cdv ct : Value) (us its ws : List Value), us.length = n → its.length = dvs.length → ws.length = ks.length →
      ∃ k, bindArgs (PySem.W.fnOf x qual params body scope (.ref T) kV doc pm an cdv ct) ⟨us, ks.zip ws⟩ = seqItems? (.ref T) >>= k ∧ k (some its.toArray) = pure (ps.zip (g us its ws))) : ∃ g', KwB K fd ps n ks g' gV := by
  obtain ⟨oc, od, dV, kV, doc, pm, an, cdv, ct, osl, rfl, lk, hcd, hD, hK⟩ := F.ex
  rcases hD with ⟨e, _⟩ | ⟨_, T, o, its, m, rfl, lT, oT, rT⟩
  · exact absurd e hd
  · refine ⟨fun us ws => g us its ws, ⟨fun s us ws X l1 l2 => ?_, fun vs zs us ws l1 l2 r1 r2 => hrel vs zs us its ws l1 l2 r1 rT r2⟩⟩
    obtain ⟨k, e1, e2⟩ := h T kV doc pm an cdv ct us its ws l1 rT.length.symm l2
    refine BindsTo.of_looks fun M => ?_
    rw [e1]
    exact looks_items X lT oT (.of_pure e2)
section
variable {X : Cx} {W : WX} {e o : Expr} {es : List Expr} {pos p apos : Pos} {CX : CXT} {k n j : Nat} {ks ps : List Str} {x : Str} {C : Addr} {m : Str} {D' : Addr → FuncData → Prop} {sp : PSp} {isp : ISp} {kws : List Keyword} {gV : List V → List V → List V} {gD : List D → List D → List D} {pl : Sem Bool}
theorem Method.dkwG {to : DX D} {t tk : DX (List D)} {E : L2.St → XK} (M : Method X.prog X.w X.K X.mg X.base CX k C m D' ps (lift X.K sp)) (kd : KwD (n + 1) ks.length gV gD) (hb : ∀ (f : Addr) (fd : FuncData), D' f fd → ∃ g, KwB X.K fd ps (n + 1) ks g gV) (he : DE X W o to) (hr : Room j X.A) (hg : X.A.guards = some [])
    (hx : ∀ σ, PassesAt CX X σ (E σ)) (ha : DAs X W (e :: es) t) (hkw : DKw X W kws tk) (hj : k ≤ j := by decide) (hall : (backToKw pos (keywordEach kws X.env)).all (·.1.isSome) = true := by rfl) (hks : (backToKw pos (keywordEach kws X.env)).filterMap (·.1) = ks := by rfl)
    (hst : starEach (e :: es) X.env = (false, eval e X.env) :: starEach es X.env := by rfl) (hpl : ((backTo pos (starEach (e :: es) X.env)).any (·.1) || (backToKw pos (keywordEach kws X.env)).any (·.1.isNone)) = false := by rfl)
    (ht : eval (.Call (.Attribute o m apos) (e :: es) kws pos) X.env = (do
      let ov ← eval o X.env
      standAt apos.atName
      let (f, first) ← holding [ov] (getMethod ov m pl)
      callWith pos f first (backTo pos (starEach (e :: es) X.env)) (backToKw pos (keywordEach kws X.env))) := by rfl) :
    DE X W (.Call (.Attribute o m apos) (e :: es) kws pos) (dMethKw C m n ks.length gD sp to t tk) := by
  obtain ⟨f, fd, h1, h2, h3, h4, h5⟩ := M.ex
  obtain ⟨g, q⟩ := hb f fd h3
  exact Method.dkw (D' := fun f' fd' => f' = f ∧ fd' = fd) (g := g) ⟨⟨f, fd, h1, h2, ⟨rfl, rfl⟩, h4, h5⟩⟩ kd (fun _ _ z => by obtain ⟨rfl, rfl⟩ := z; exact q) he hr hg hx ha hkw hj hall hks hst hpl ht
theorem Maker.dkwG {t tk : DX (List D)} (M : Maker X.prog X.w X.K X.mg X.base CX k x C D' ps (liftI X.K C isp)) (kd : KwM n ks.length gV gD) (hb : ∀ (f : Addr) (fd : FuncData), D' f fd → ∃ g, KwB X.K fd ps (n + 1) ks g gV) (hG : Gl X x) (hr : Room j X.A) (hg : X.A.guards = some [])
    (hx : ∀ σ, PassesAt CX X σ (WE W σ)) (ha : DAs X W (e :: es) t) (hkw : DKw X W kws tk) (hj : k + 1 ≤ j := by decide)
    (hall : (backToKw pos (keywordEach kws X.env)).all (·.1.isSome) = true := by rfl) (hks : (backToKw pos (keywordEach kws X.env)).filterMap (·.1) = ks := by rfl)
    (hdb : (x == ("__debug__" : Str)) = false := by decide) (he : starEach (e :: es) X.env = (false, eval e X.env) :: starEach es X.env := by rfl)
    (hpl : ((backTo pos (starEach (e :: es) X.env)).any (·.1) || (backToKw pos (keywordEach kws X.env)).any (·.1.isNone)) = false := by rfl) : DE X W (.Call (.Name x p) (e :: es) kws pos) (dMakeKw C n ks.length gD isp t tk) := by
  obtain ⟨f, fd, h1, h2, h3, h4, h5⟩ := M.ex
  obtain ⟨g, q⟩ := hb f fd h3
  exact Maker.dkw (D' := fun f' fd' => f' = f ∧ fd' = fd) (g := g) ⟨⟨f, fd, h1, h2, ⟨rfl, rfl⟩, h4, h5⟩⟩ kd (fun _ _ z => by obtain ⟨rfl, rfl⟩ := z; exact q) hG hr hg hx ha hkw hj hall hks hdb he hpl
theorem Maker.dkwEG {t tk : DX (List D)} {E : L2.St → XK} (M : Maker X.prog X.w X.K X.mg X.base CX k x C D' ps (liftI X.K C isp)) (kd : KwM n ks.length gV gD) (hb : ∀ (f : Addr) (fd : FuncData), D' f fd → ∃ g, KwB X.K fd ps (n + 1) ks g gV) (hG : Gl X x) (hr : Room j X.A) (hg : X.A.guards = some [])
    (hx : ∀ σ, PassesAt CX X σ (E σ)) (ha : DAs X W (e :: es) t) (hkw : DKw X W kws tk) (hj : k + 1 ≤ j := by decide)
    (hall : (backToKw pos (keywordEach kws X.env)).all (·.1.isSome) = true := by rfl) (hks : (backToKw pos (keywordEach kws X.env)).filterMap (·.1) = ks := by rfl)
    (hdb : (x == ("__debug__" : Str)) = false := by decide) (he : starEach (e :: es) X.env = (false, eval e X.env) :: starEach es X.env := by rfl)
    (hpl : ((backTo pos (starEach (e :: es) X.env)).any (·.1) || (backToKw pos (keywordEach kws X.env)).any (·.1.isNone)) = false := by rfl) : DE X W (.Call (.Name x p) (e :: es) kws pos) (dMakeKw0 C n ks.length gD isp t tk) := by
  obtain ⟨f, fd, h1, h2, h3, h4, h5⟩ := M.ex
  obtain ⟨g, q⟩ := hb f fd h3
  exact Maker.dkwE (D' := fun f' fd' => f' = f ∧ fd' = fd) (g := g) ⟨⟨f, fd, h1, h2, ⟨rfl, rfl⟩, h4, h5⟩⟩ kd (fun _ _ z => by obtain ⟨rfl, rfl⟩ := z; exact q) hG hr hg hx ha hkw hj hall hks hdb he hpl
end
end Lay

set_option Elab.async false
set_option linter.all false
set_option maxRecDepth 100000
set_option maxHeartbeats 2000000
namespace Lay
open PySem PySem.Spec PyProof.Rows L2
/-! ### zip of lists, tuples and texts of any kind -/
inductive ZS where
  | l (a : Addr) | t (a : Addr) | s (z : Str)
def signsV (z : Str) : List V := z.cps.toList.map fun c => V.str ⟨#[c]⟩
def ZS.at (K : PySem.W.Frag) (H : Hp) (p : ZS) (xs : List V) : Prop := match p with
  | .l a => SqL K H a xs
  | .t a => SqT K H a xs
  | .s z => xs = signsV z
def ZS.val : ZS → V → Prop
  | .l a, v => v = .ref a
  | .t a, v => v = .ref a
  | .s z, v => v = .str z
def ZS.cell : ZS → List Addr
  | .l a => [a]
  | .t a => [a]
  | .s _ => []
def ZS.it (k : Tok) (x : Addr) (i : Nat) (h : Heap) : ZS → Prop
  | .l a => h.IsListIter x a i
  | .t a => h.IsTupleIter x a i
  | .s z => h.IsStrIter x (strIterType z) z k i
section
variable {X : Cx} {pins : List (Addr × Obj)} {σ : L2.St} {H : Hp} {s : Shared}
end
/-- the items of both, in new pairs -/
def ItzG (K : PySem.W.Frag) (p q : ZS) : It :=
  ⟨fun i H => ∃ (xs ys : List V) (x y : V), p.at K H xs ∧ q.at K H ys ∧ xs[i]? = some x ∧ ys[i]? = some y,
   fun i H v H' => ∃ T x y, v = .ref T ∧ H T = none ∧ H' = upd H T (.tup [x, y]) ∧ (∀ xs, p.at K H xs → xs[i]? = some x) ∧ ∀ ys, q.at K H ys → ys[i]? = some y,
   fun i H => ∃ xs ys : List V, p.at K H xs ∧ q.at K H ys ∧ i ≤ xs.length ∧ i ≤ ys.length ∧ (i = xs.length ∨ i = ys.length)⟩
section
variable {X : Cx} {W : WX} {e a b : Expr} {pos p : Pos}
def iZipG (K : PySem.W.Frag) (ta : TA) : TI := fun σ H R => ta σ H fun vs H1 => ∃ p q xs ys v1 v2, vs = [v1, v2] ∧ ZS.val p v1 ∧ ZS.val q v2 ∧ p.at K H1 xs ∧ q.at K H1 ys ∧ R (ItzG K p q) H1
/-- what stands frozen -/
def ZS.atN (K : PySem.W.Frag) (N : Addr → Prop) (H : Hp) (p : ZS) (xs : List V) : Prop := match p with
  | .l a => LstAt K N H a xs
  | .t a => TupAt K N H a xs
  | .s z => xs = signsV z
theorem reps_signs {K : PySem.W.Frag} {N : Addr → Prop} {H : Hp} (z : Str) : Reps K N H (signsD z) (signsV z) := by
  unfold signsD signsV
  generalize z.cps.toList = l
  induction l with
  | nil => exact .nil
  | cons c l ih => exact .cons .s ih
def zipG : List D → (List D → Prop) → Prop
  | [d1, d2], k => iterD d1 fun ds => iterD d2 fun es => k (zipD ds es)
  | _, _ => False
theorem e_zipG (d1 d2 : D) (k : List D → Prop) : zipG [d1, d2] k = iterD d1 fun ds => iterD d2 fun es => k (zipD ds es) := rfl
/-! ### x in a list of data of any depth -/
def inDeep (f : Bool → Bool) : Op2 := fun d e k => ∃ ds p ps, e = .lst ds ∧ dat d = some p ∧ dats ds = some ps ∧ SeqAt.shaped p = true ∧ SeqAt.shaped (.list ps) = true ∧ k (.bl (f (ps.any fun z => PyData.eqv z p)))
end
end Lay

set_option Elab.async false
set_option linter.all false
set_option maxRecDepth 100000
set_option maxHeartbeats 2000000
namespace Lay
open PySem PySem.Spec PyProof.Rows L2 SeqAt
open AutoSeq1 (wpAny_loadPart')
open MeetsSeq MeetsSeq2 MeetsSeq3 SeqRoads2
section
variable {prog : Program} {w : World} {A : Around} {E : Value → Shared → Prop} {s : Shared}
theorem tup_obj {h : Heap} {l : Addr} {xs : Array Value} (t : h.IsTuple l xs) : ∃ n dd sl, h.get? l = some { cls := .type "tuple", dict := dd, data := .seq xs n, slots := sl } := by
  obtain ⟨o, e, c, n, d⟩ := t
  cases o
  cases c; cases d
  exact ⟨n, _, _, e⟩
/-- == of the two tells a, whatever the state is, as long as G holds -/
def Answers (prog : Program) (w : World) (A : Around) (E : Value → Shared → Prop) (G : Shared → Prop) (a : Bool) (p : Value × Value) : Prop :=
  ∀ s, G s → ∀ Q : Bool → Shared → Prop, (∀ s', G s' → Q a s') → wpAny (model prog w) A (eqBool p.1 p.2) Q E s
theorem thenDone {B : Around} {t : Sem PySem.Fin} {Q : Value → Shared → Prop} (h : wpAny (model prog w) B t (fun f s' => ∃ v, f = .done (.ret v) ∧ (v ≠ .notImplemented ∧ Q v s')) E s) :
    wpAny (model prog w) B t (fun f s' => match f with | .done f => wants (fun v s' => v ≠ .notImplemented ∧ Q v s') E (.ok f) s' | .again c' => c'.quiet = true ∧ codeAny (model prog w) A c' (wants (fun v s' => v ≠ .notImplemented ∧ Q v s') E) s') (fun e s' => wants (fun v s' => v ≠ .notImplemented ∧ Q v s') E (.error e) s') s :=
  wpAny_mono h (fun f s' ⟨v, e, q⟩ => by rw [e]; exact q) fun _ _ x => x
/-- the answers es of the pairs, one by one: what the tuples' Eq tells -/
theorem tup_eqG {l b : Addr} {xs ys : Array Value} {es : List Bool} {G : Shared → Prop} {Q : Value → Shared → Prop} (hl : s.heap.IsTuple l xs) (hb : s.heap.IsTuple b ys) (room : A.units < cLine) (h0 : G s)
    (he : Paired (Answers prog w A.in1 E G) es (xs.toList.zip ys.toList)) (k : ∀ s', G s' → Q (.bool (es.all id && xs.size == ys.size)) s') : wpAny (model prog w) A (richCompare .Eq (.ref l) (.ref b)) Q E s := by
  obtain ⟨n1, d1, c1, o1⟩ := tup_obj hl
  obtain ⟨n2, d2, c2, o2⟩ := tup_obj hb
  have t1 : s.TypeIs (.ref l) "tuple" := ⟨_, o1, rfl⟩
  have t2 : s.TypeIs (.ref b) "tuple" := ⟨_, o2, rfl⟩
  have wide := AutoSeq1.sub_tuple_tuple
  have told : ∀ es' : List Bool, (∀ s', G s' → Q (.bool (es'.all id && xs.size == ys.size)) s') → ∀ s', G s' → Value.bool (es'.all id && xs.size == ys.size) ≠ .notImplemented ∧ Q (.bool (es'.all id && xs.size == ys.size)) s' := fun es' q s' g => ⟨Value.noConfusion, q s' g⟩
  refine wpAny_richCompare_same_room (op := .Eq) t1 t2 F.slot_tuple_eq (wpAny_call (codeAny_call_builtin F.slot_tuple_eq.plain F.entry_tuple_eq (F.slot_tuple_eq.check _ _ _ _ _ _ _ _ t1 (F.args_tuple_eq_2 _ _) ?body))) room
  refine thenDone ?_
  cases s
  wp_walk using wpAny_loadPart' o1, wpAny_loadPart' o2, wpAny_forIn_list _ (fun rest st s' => G s' ∧ st.1 = none ∧ ∃ es', Paired (Answers prog w A.in1 E G) es' rest ∧ ∀ s', G s' → Q (.bool (es'.all id && xs.size == ys.size)) s') _
  case h => exact ⟨h0, rfl, es, he, k⟩
  case turn =>
    rintro ⟨x, y⟩ rest st s' ⟨g, _, es', hp, q⟩
    match es', hp with
    | a :: as, .cons ha hs =>
      refine wpAny_bind (ha s' g _ fun s2 g2 => ?_)
      cases a
      · wp_walk
        exact ⟨_, rfl, by simpa using told _ q s2 g2⟩
      · wp_walk
        exact ⟨g2, rfl, as, hs, by simpa using q⟩
  case fin =>
    rintro ⟨r1, r2⟩ s' ⟨g, e, es', hp, q⟩
    cases hp
    cases e
    wp_walk
    exact ⟨_, rfl, by simpa [Builtin.Tuple.tupleCompareSizes] using told _ q s' g⟩
end
/-! ### == item by item, own == within -/
inductive HEq' (K : PySem.W.Frag) (C : Addr) (sp : Sp) (G : Hp → Prop) : Nat → V → V → Bool → Prop
  | own {n : Nat} {a b : Addr} {c : Bool} (h : ∀ H, G H → (∃ dx fs, H a = some (.ins C dx fs)) ∧ (∃ dx fs, H b = some (.ins C dx fs)) ∧ sp [.ref a, .ref b] H (fun v H' => v = .bl c ∧ G H') E0) (h2 : a = b → c = true) : HEq' K C sp G n (.ref a) (.ref b) c
  | str {n : Nat} {x y : Str} : HEq' K C sp G n (.str x) (.str y) (x == y)
  | int {n : Nat} {x y : Int} : HEq' K C sp G n (.int x) (.int y) (x == y)
  | tup {n : Nat} {t1 t2 : Addr} {vs ws : List V} {e : Nat → Bool} (h : ∀ H, G H → SqT K H t1 vs ∧ SqT K H t2 ws) (he : ∀ j v w, vs[j]? = some v → ws[j]? = some w → HEq' K C sp G n v w (e j))
      (h2 : t1 = t2 → ((List.range (min vs.length ws.length)).all e && vs.length == ws.length) = true) : HEq' K C sp G (n + 1) (.ref t1) (.ref t2) ((List.range (min vs.length ws.length)).all e && vs.length == ws.length)
theorem zip_two {its jts : List Value} {e : Nat → Bool} {i : Nat} {a : Bool} {p : Value × Value} (ep : (its.toArray.toList.zip jts.toArray.toList)[i]? = some p) (ea : ((List.range (min its.length jts.length)).map e)[i]? = some a) : e i = a ∧ its[i]? = some p.1 ∧ jts[i]? = some p.2 := by
  have ep : (its.zip jts)[i]? = some p := ep
  have hi := lt_of_get ea
  rw [List.length_map, List.length_range] at hi
  rw [List.getElem?_map, List.getElem?_range hi] at ea
  obtain ⟨e1, e2⟩ := zip_get ep
  exact ⟨Option.some.inj ea, e1, e2⟩
theorem paired_at {α β : Type} {R : α → β → Prop} : ∀ {xs : List α} {ys : List β}, xs.length = ys.length → (∀ (i : Nat) (x : α) (y : β), xs[i]? = some x → ys[i]? = some y → R x y) → Paired R xs ys
  | [], [], _, _ => .nil
  | x :: xs, y :: ys, h, k => .cons (k 0 x y rfl rfl) (paired_at (Nat.succ.inj h) fun i a b e1 e2 => k (i + 1) a b e1 e2)
section
variable {X : Cx} {j k : Nat} {C : Addr} {D' : Addr → FuncData → Prop} {ps : List Str} {sp : Sp} {pins : List (Addr × Obj)} {σ : L2.St}
theorem Method.item (M : Method X.prog X.w X.K X.mg X.base CX0 k C "__eq__" D' ps sp) {G : Hp → Prop} : ∀ {n : Nat} {v w : V} {b : Bool}, HEq' X.K C sp G n v w b → ∀ {A : Around}, Room (k + n) A → A.guards = some [] →
    (∀ H s, Inv X pins σ H s → Env0 X.prog X.w X.K X.mg X.base A X.stack s H) → ∀ {H : Hp} {s : Shared} {u1 u2 : Value} {Q : Bool → Shared → Prop} {E : Value → Shared → Prop}, Inv X pins σ H s → G H → RelV v u1 → RelV w u2 →
    (∀ H' s', Inv X pins σ H' s' → G H' → Q b s') → wpAny (model X.prog X.w) A (eqBool u1 u2) Q E s := by
  intro n v w b h
  induction h with
  | @own n a b c h h2 =>
    intro A hr hg hA H s u1 u2 Q E I hG r1 r2 hQ
    obtain ⟨f, fd, c0, hm, F, bb, Gf⟩ := M.ex
    obtain rfl : u1 = Value.ref a := r1
    obtain rfl : u2 = Value.ref b := r2
    obtain ⟨⟨dx, fs, ea⟩, ⟨dy, gs, eb⟩, z⟩ := h H hG
    unfold eqBool
    refine wpAny_holding ?_
    refine wpAny_ite_split (fun hab => ?_) (fun _ => ?_)
    · have hab := eq_of_beq hab
      injection hab with hab
      have := hQ H s I hG
      rw [h2 hab] at this
      exact wpAny_bind (wpAny_rule (wpAny_pure this))
    · obtain ⟨mA, O, _⟩ := ins_get I.hok ea
      obtain ⟨od, J, _⟩ := O.look
      obtain ⟨mA', O', _⟩ := ins_get I.hok eb
      obtain ⟨od', J', _⟩ := O'.look
      obtain ⟨m, fr⟩ := I.fr
      refine wpAny_bind (PySem.W.cmp_K (op := .Eq) (tb := .ref C) hr.units0 fr I.ok.mod.kin J J'.type notFirst_self hm.at_ hm.fn ?_)
      refine wpAny_mono (gcallA (vs := [V.ref a, V.ref b]) Gf (hr.mono (Nat.le_add_right _ _)) hg (hA _ _ I) bb I (.cons rfl (.cons rfl .nil)) z) ?_ (fun _ _ e => e)
      rintro w s' ⟨v, H', I', rv, rfl, hG'⟩
      obtain rfl : w = Value.bool c := rv
      exact wpAny_truthy_bool (hQ H' s' I' hG')
  | str =>
    intro A hr hg hA H s u1 u2 Q E I hG r1 r2 hQ
    obtain ⟨t1, rfl⟩ := r1
    obtain ⟨t2, rfl⟩ := r2
    exact eqGives_str _ _ _ _ _ _ _ _ _ _ (hQ H s I hG)
  | int =>
    intro A hr hg hA H s u1 u2 Q E I hG r1 r2 hQ
    obtain ⟨t1, rfl⟩ := r1
    obtain ⟨t2, rfl⟩ := r2
    exact MeetsSeq.EqGives.int _ _ _ _ _ _ _ _ _ _ (hQ H s I hG)
  | @tup n t1 t2 vs ws e h he h2 ih =>
    intro A hr hg hA H s u1 u2 Q E I hG r1 r2 hQ
    obtain rfl : u1 = Value.ref t1 := r1
    obtain rfl : u2 = Value.ref t2 := r2
    obtain ⟨q1, q2⟩ := h H hG
    obtain ⟨its, rs, hl, _⟩ := I.tuple q1
    obtain ⟨jts, ss, hb, _⟩ := I.tuple q2
    have l1 := rs.length
    have l2 := ss.length
    unfold eqBool
    refine wpAny_holding ?_
    refine wpAny_ite_split (fun hab => ?_) (fun _ => ?_)
    · have hab := eq_of_beq hab
      injection hab with hab
      have := hQ H s I hG
      rw [h2 hab] at this
      exact wpAny_bind (wpAny_rule (wpAny_pure this))
    · refine wpAny_bind (tup_eqG (es := (List.range (min its.length jts.length)).map e) (G := fun s => ∃ H, Inv X pins σ H s ∧ G H) hl hb hr.units0 ⟨H, I, hG⟩ (paired_at (by simp) fun i a p ea ep => ?_) fun s' ⟨H', I', hG'⟩ => ?_)
      · obtain ⟨hia, e1, e2⟩ := zip_two ep ea
        subst hia
        obtain ⟨u, f1, r1⟩ := rs.get (i := i) (x := vs[i]'(by have := lt_of_get e1; omega)) (List.getElem?_eq_getElem _)
        obtain ⟨u', f2, r2⟩ := ss.get (i := i) (x := ws[i]'(by have := lt_of_get e2; omega)) (List.getElem?_eq_getElem _)
        rw [e1] at f1
        rw [e2] at f2
        cases f1; cases f2
        exact fun s ⟨H', I', hG'⟩ Q hq => ih i _ _ (List.getElem?_eq_getElem _) (List.getElem?_eq_getElem _) (show Room (k + n + 1) A from hr).in1 hg (fun H s I => (hA H s I).in1) I' hG' r1 r2 fun H2 s2 I2 G2 => hq s2 ⟨H2, I2, G2⟩
      · refine wpAny_truthy_bool ?_
        have := hQ H' s' I' hG'
        rw [l1, l2] at this
        simpa [List.all_map] using this
end
/-! ### the same for trees -/
mutual
def firm : D → Prop
  | .int _ | .str _ | .non | .bl _ | .ty _ => True
  | .tup ds => firms ds
  | .ins _ _ ds => firms ds
  | _ => False
def firms : List D → Prop
  | [] => True
  | d :: ds => firm d ∧ firms ds
end
theorem firms_map {α : Type} {f : α → D} : ∀ {l : List α}, (∀ a ∈ l, firm (f a)) → firms (l.map f)
  | [], _ => by rw [List.map_nil, firms]; trivial
  | a :: l, h => by rw [List.map_cons, firms]; exact ⟨h a List.mem_cons_self, firms_map fun b m => h b (List.mem_cons_of_mem _ m)⟩
theorem firms.get : ∀ {l : List D}, firms l → ∀ d ∈ l, firm d
  | d :: ds, h, e, m => by
    rw [firms] at h
    rcases List.mem_cons.mp m with rfl | m
    · exact h.1
    · exact h.2.get e m
structure TupInj (K : PySem.W.Frag) (H : Hp) : Prop where
  inj : ∀ t vs ws, SqT K H t vs → SqT K H t ws → vs = ws
  no : ∀ t vs C dx fs, SqT K H t vs → H t = some (.ins C dx fs) → False
theorem Inv.tupInj {X : Cx} {pins : List (Addr × Obj)} {σ : L2.St} {H : Hp} {s : Shared} (I : Inv X pins σ H s) : TupInj X.K H := by
  refine ⟨fun t vs ws h1 h2 => I.tuple_inj h1 h2, fun t vs C dx fs h1 h2 => ?_⟩
  obtain ⟨its, r, ⟨o, e, c, n, d⟩, _⟩ := I.tuple h1
  obtain ⟨mA, O, q⟩ := ins_get I.hok h2
  obtain ⟨od, J, _⟩ := O.look
  have a1 := J.at_
  have a2 := J.cls
  rw [e] at a1
  cases a1
  rw [c] at a2
  cases a2
theorem Reps.len {K : PySem.W.Frag} {N : Addr → Prop} {H : Hp} : ∀ {ds : List D} {vs : List V}, Reps K N H ds vs → vs.length = ds.length
  | [], vs, h => by rw [Reps] at h; rw [h]; rfl
  | d :: ds, vs, h => by
    rw [Reps] at h
    obtain ⟨v, r, rfl, _, h⟩ := h
    rw [List.length_cons, List.length_cons, Reps.len h]
theorem zip_inj {α β : Type} : ∀ {a c : List α} {b d : List β}, a.length = b.length → c.length = d.length → a.zip b = c.zip d → a = c ∧ b = d
  | [], [], [], [], _, _, _ => ⟨rfl, rfl⟩
  | [], _ :: _, [], _ :: _, _, _, h => by cases h
  | _ :: _, [], _ :: _, [], _, _, h => by cases h
  | x :: a, y :: c, u :: b, w :: d, h1, h2, h => by
    rw [List.zip_cons_cons, List.zip_cons_cons, List.cons.injEq, Prod.mk.injEq] at h
    obtain ⟨e1, e2⟩ := zip_inj (a := a) (c := c) (b := b) (d := d) (Nat.succ.inj h1) (Nat.succ.inj h2) h.2
    exact ⟨by rw [h.1.1, e1], by rw [h.1.2, e2]⟩
section
variable {K : PySem.W.Frag} {N : Addr → Prop} {H : Hp}
mutual
theorem Rep.inj (T : TupInj K H) : ∀ (d d' : D) (v : V), firm d → firm d' → Rep K N H d v → Rep K N H d' v → d = d'
  | .int i, d', v, f, f', r, r' => by cases d' <;> simp only [Rep] at r r' <;> first | (simp only [firm] at f'; done) | (subst r; cases r'; rfl) | (subst r; cases r'; done) | (subst r; obtain ⟨_, _, q, _⟩ := r'; cases q; done) | (subst r; obtain ⟨_, _, _, q, _⟩ := r'; cases q; done)
  | .str i, d', v, f, f', r, r' => by cases d' <;> simp only [Rep] at r r' <;> first | (simp only [firm] at f'; done) | (subst r; cases r'; rfl) | (subst r; cases r'; done) | (subst r; obtain ⟨_, _, q, _⟩ := r'; cases q; done) | (subst r; obtain ⟨_, _, _, q, _⟩ := r'; cases q; done)
  | .bl i, d', v, f, f', r, r' => by cases d' <;> simp only [Rep] at r r' <;> first | (simp only [firm] at f'; done) | (subst r; cases r'; rfl) | (subst r; cases r'; done) | (subst r; obtain ⟨_, _, q, _⟩ := r'; cases q; done) | (subst r; obtain ⟨_, _, _, q, _⟩ := r'; cases q; done)
  | .ty i, d', v, f, f', r, r' => by cases d' <;> simp only [Rep] at r r' <;> first | (simp only [firm] at f'; done) | (subst r; cases r'; rfl) | (subst r; cases r'; done) | (subst r; obtain ⟨_, _, q, _⟩ := r'; cases q; done) | (subst r; obtain ⟨_, _, _, q, _⟩ := r'; cases q; done)
  | .non, d', v, f, f', r, r' => by cases d' <;> simp only [Rep] at r r' <;> first | (simp only [firm] at f'; done) | (subst r; cases r'; rfl) | (subst r; cases r'; done) | (subst r; obtain ⟨_, _, q, _⟩ := r'; cases q; done) | (subst r; obtain ⟨_, _, _, q, _⟩ := r'; cases q; done)
  | .tup ds, d', v, f, f', r, r' => by
    simp only [Rep] at r
    obtain ⟨a, vs, rfl, h, q⟩ := r
    cases d' <;> simp only [Rep] at r' <;> first | (simp only [firm] at f'; done) | (cases r'; done) | skip
    · obtain ⟨a', vs', e, h', q'⟩ := r'
      cases e
      have := T.inj a vs vs' h.sq h'.sq
      subst this
      rw [firm] at f f'
      rw [Reps.inj T _ _ vs f f' q q']
    · obtain ⟨a', dx, vs', e, _, h', _⟩ := r'
      cases e
      exact (T.no _ _ _ _ _ h.sq h').elim
  | .ins C ns ds, d', v, f, f', r, r' => by
    simp only [Rep] at r
    obtain ⟨a, dx, vs, rfl, hn, h, hl, q⟩ := r
    cases d' <;> simp only [Rep] at r' <;> first | (simp only [firm] at f'; done) | (cases r'; done) | skip
    · obtain ⟨a', vs', e, h', _⟩ := r'
      cases e
      exact (T.no _ _ _ _ _ h'.sq h).elim
    · obtain ⟨a', dx', vs', e, hn', h', hl', q'⟩ := r'
      cases e
      rw [h] at h'
      have h3 := Option.some.inj h'
      simp only [HO.ins.injEq] at h3
      obtain ⟨rfl, rfl, e⟩ := h3
      obtain ⟨rfl, rfl⟩ := zip_inj (by rw [hl, Reps.len q]) (by rw [hl', Reps.len q']) e
      rw [firm] at f f'
      rw [Reps.inj T _ _ vs f f' q q']
  | .adr _, _, _, f, _, _, _ => by simp only [firm] at f
  | .lst _, _, _, f, _, _, _ => by simp only [firm] at f
  | .rol _, _, _, f, _, _, _ => by simp only [firm] at f
  | .exn _ _ _, _, _, f, _, _, _ => by simp only [firm] at f
  | .dic _ _, _, _, f, _, _, _ => by simp only [firm] at f
theorem Reps.inj (T : TupInj K H) : ∀ (ds ds' : List D) (vs : List V), firms ds → firms ds' → Reps K N H ds vs → Reps K N H ds' vs → ds = ds'
  | [], [], _, _, _, _, _ => rfl
  | [], d' :: ds', vs, _, _, r, r' => by simp only [Reps] at r r'; subst r; obtain ⟨_, _, q, _⟩ := r'; cases q
  | d :: ds, [], vs, _, _, r, r' => by simp only [Reps] at r r'; subst r'; obtain ⟨_, _, q, _⟩ := r; cases q
  | d :: ds, d' :: ds', vs, f, f', r, r' => by
    simp only [Reps] at r r'
    rw [firms] at f f'
    obtain ⟨v, q, rfl, r1, r2⟩ := r
    obtain ⟨v', q', e, r1', r2'⟩ := r'
    cases e
    rw [Rep.inj T d d' v f.1 f'.1 r1 r1', Reps.inj T ds ds' q f.2 f'.2 r2 r2']
end
end
/-- d1 == d2, item by item, as the class's own == tells; what it tells -/
inductive EqI (C : Addr) (sp : PSp) (z : Z) : Nat → D → D → Bool → Prop
  | own {n : Nat} {d1 d2 : D} {b : Bool} (h1 : ∃ ns ds, d1 = .ins C ns ds) (h2 : ∃ ns ds, d2 = .ins C ns ds) (f1 : firm d1) (f2 : firm d2) (h : sp [d1, d2] z (fun r z' => r = .bl b ∧ z' = z) noP) (hr : d1 = d2 → b = true) : EqI C sp z n d1 d2 b
  | str {n : Nat} {x y : Str} : EqI C sp z n (.str x) (.str y) (x == y)
  | int {n : Nat} {x y : Int} : EqI C sp z n (.int x) (.int y) (x == y)
  | tup {n : Nat} {xs ys : List D} {e : Nat → Bool} (f1 : firms xs) (f2 : firms ys) (h : ∀ j x y, xs[j]? = some x → ys[j]? = some y → EqI C sp z n x y (e j)) : EqI C sp z (n + 1) (.tup xs) (.tup ys) ((List.range (min xs.length ys.length)).all e && xs.length == ys.length)
theorem EqI.firms {C : Addr} {sp : PSp} {z : Z} {n : Nat} {d1 d2 : D} {b : Bool} (h : EqI C sp z n d1 d2 b) : firm d1 ∧ firm d2 := by
  cases h with
  | own _ _ f1 f2 _ _ => exact ⟨f1, f2⟩
  | str => rw [firm]; trivial
  | int => rw [firm, firm]; exact ⟨trivial, trivial⟩
  | tup f1 f2 _ => rw [firm, firm]; exact ⟨f1, f2⟩
theorem EqI.refl {C : Addr} {sp : PSp} {z : Z} {n : Nat} {d1 d2 : D} {b : Bool} (h : EqI C sp z n d1 d2 b) : d1 = d2 → b = true := by
  induction h with
  | own _ _ _ _ _ hr => exact hr
  | str => intro e; cases e; simp
  | int => intro e; cases e; simp
  | @tup n xs ys e f1 f2 h ih =>
    intro q
    cases q
    rw [Nat.min_self, Bool.and_eq_true, List.all_eq_true]
    refine ⟨fun j m => ?_, by simp⟩
    have hj : j < xs.length := List.mem_range.mp m
    exact ih j _ _ (List.getElem?_eq_getElem hj) (List.getElem?_eq_getElem hj) rfl
section
variable {X : Cx} {j k : Nat} {C : Addr} {D' : Addr → FuncData → Prop} {ps : List Str} {sp : PSp} {W : WX} {a b : Expr} {pos : Pos}
theorem TupAt.mono {K : PySem.W.Frag} {N N' : Addr → Prop} {H H' : Hp} (g : Ext N H N' H') {a : Addr} {vs : List V} (h : TupAt K N H a vs) : TupAt K N' H' a vs := by
  rcases h with ⟨n, h⟩ | h
  · refine .inl ⟨fun q => ?_, ?_⟩
    · rcases g.nw a q with q | q
      · exact n q
      · rcases h with h | ⟨o, h⟩ <;> rw [q] at h <;> cases h
    · rcases h with h | ⟨o, h⟩
      · exact .inl (g.st a _ h n)
      · exact .inr ⟨o, g.st a _ h n⟩
  · exact .inr h
theorem EqI.toH {K : PySem.W.Frag} {M : Addr → Prop} {H : Hp} {σ : L2.St} {ρ : List Sl} {z : Z} {O : Nat → Option Addr} (w : Wd K M H σ ρ z O) (T : TupInj K H) {n : Nat} {d1 d2 : D} {b : Bool} (h : EqI C sp z n d1 d2 b) :
    ∀ {v1 v2 : V}, Rep K (NN M z O) H d1 v1 → Rep K (NN M z O) H d2 v2 → HEq' K C (lift K sp) (fun H' => GoE M H z O H' z O ∧ Wd K M H' σ ρ z O) n v1 v2 b := by
  induction h with
  | @own n d1 d2 b h1 h2 f1 f2 h hr =>
    intro v1 v2 r1 r2
    obtain ⟨ns1, ds1, e1⟩ := h1
    obtain ⟨ns2, ds2, e2⟩ := h2
    have r1' := r1
    have r2' := r2
    rw [e1] at r1'
    rw [e2] at r2'
    obtain ⟨a, dx, vs, rfl, q1, q2, q3⟩ := RepP.ins (z := z) (.inl r1')
    obtain ⟨a2, dx2, vs2, rfl, q1', q2', q3'⟩ := RepP.ins (z := z) (.inl r2')
    refine .own (fun H' ⟨g, w'⟩ => ?_) fun e => hr (Rep.inj T _ _ _ f1 f2 r1 (by rw [e]; exact r2))
    have s1 := Rep.mono g.ext _ _ r1
    have s2 := Rep.mono g.ext _ _ r2
    have s1' := s1
    have s2' := s2
    rw [e1] at s1'
    rw [e2] at s2'
    obtain ⟨_, _, _, u1, p1, _⟩ := RepP.ins (z := z) (.inl s1')
    obtain ⟨_, _, _, u2, p2, _⟩ := RepP.ins (z := z) (.inl s2')
    cases u1; cases u2
    refine ⟨⟨_, _, p1⟩, ⟨_, _, p2⟩, lift_at0 (R := fun d ρ z' => d = .bl b ∧ z' = z) w' (.cons s1 (.cons s2 .nil)) h fun d z' v H2 hd g2 w2 r => ?_⟩
    obtain ⟨rfl, rfl⟩ := hd
    obtain rfl := RepP.bl (z := z') (.inl r)
    exact ⟨rfl, g.trans g2, w2⟩
  | str => intro v1 v2 r1 r2; obtain rfl := RepP.str (z := z) (.inl r1); obtain rfl := RepP.str (z := z) (.inl r2); exact .str
  | int => intro v1 v2 r1 r2; obtain rfl := RepP.int (z := z) (.inl r1); obtain rfl := RepP.int (z := z) (.inl r2); exact .int
  | @tup n xs ys e f1 f2 h ih =>
    intro v1 v2 r1 r2
    have hi := EqI.refl (.tup f1 f2 h)
    have r1' := r1
    have r2' := r2
    rw [Rep] at r1' r2'
    obtain ⟨t1, vs, rfl, p1, q1⟩ := r1'
    obtain ⟨t2, ws, rfl, p2, q2⟩ := r2'
    rw [← Reps.len q1, ← Reps.len q2] at hi ⊢
    refine .tup (fun H' ⟨g, w'⟩ => ⟨(p1.mono g.ext).sq, (p2.mono g.ext).sq⟩) (fun j v w hv hw => ?_) fun e => hi (Rep.inj T _ _ _ (by rw [firm]; exact f1) (by rw [firm]; exact f2) r1 (by rw [e]; exact r2))
    have hj1 := lt_of_get hv
    have hj2 := lt_of_get hw
    rw [Reps.len q1] at hj1
    rw [Reps.len q2] at hj2
    obtain ⟨v', ev, rv⟩ := q1.get (List.getElem?_eq_getElem hj1)
    obtain ⟨w', ew, rw'⟩ := q2.get (List.getElem?_eq_getElem hj2)
    rw [hv] at ev; cases ev
    rw [hw] at ew; cases ew
    exact ih j _ _ (List.getElem?_eq_getElem hj1) (List.getElem?_eq_getElem hj2) rv rw'
/-- t == t', t != t' of tuples with own instances within -/
def dTupO (n : Nat) (C : Addr) (sp : PSp) (f : Bool → Bool) (ta tb : DX D) : DX D := fun ρ z R RX => ta ρ z (fun d1 ρ1 z1 => tb ρ1 z1 (fun d2 ρ2 z2 => ∃ xs ys b, d1 = .tup xs ∧ d2 = .tup ys ∧ EqI C sp z2 n d1 d2 b ∧ R (.bl (f b)) ρ2 z2) RX) RX
theorem ap_dTupO (n : Nat) (C : Addr) (sp : PSp) (f : Bool → Bool) (ta tb : DX D) (s0 : Sl) (ρ0 : List Sl) (z : Z) (R : D → List Sl → Z → Prop) (RX : KX) : dTupO n C sp f ta tb (s0 :: ρ0) z R RX = (ta (s0 :: ρ0) z (fun d1 ρ1 z1 => tb ρ1 z1 (fun d2 ρ2 z2 => ∃ xs ys b, d1 = .tup xs ∧ d2 = .tup ys ∧ EqI C sp z2 n d1 d2 b ∧ R (.bl (f b)) ρ2 z2) RX) RX) := rfl
def rTupO (K : PySem.W.Frag) (C : Addr) (sp : Sp) (n : Nat) (f : Bool → Bool) : R2 := fun x y H Q => ∃ G : Hp → Prop, ∃ b : Bool, ∃ t1 t2 vs ws, x = .ref t1 ∧ y = .ref t2 ∧ SqT K H t1 vs ∧ SqT K H t2 ws ∧ G H ∧ (TupInj K H → HEq' K C sp G n x y b) ∧ ∀ H', G H' → Q (.bl (f b)) H'
end
/-! ### x.lower(), x.upper() -/
def caseD (g : Str → Str) : FnS
  | a, [], k => a.length ≤ 5592405 ∧ k (.str (g a))
  | _, _, _ => False
theorem e_caseD (g : Str → Str) (a : Str) (k : D → Prop) : caseD g a [] k = (a.length ≤ 5592405 ∧ k (.str (g a))) := rfl
section
variable {X : Cx}
end
/-! ### f(e, .., k=v, ..), a def that raises, with defaults -/
def tKwS (n m : Nat) (sp : Sp) (gV : List V → List V → List V) (E : L2.St → XK) (t tk : TA) : TE := fun σ H Q =>
  t σ H fun vs H1 => tk σ H1 fun zs H2 => vs.length = n ∧ zs.length = m ∧ sp (gV vs zs) H2 Q (E σ)
section
variable {X : Cx} {W : WX} {CX : CXT} {j k n : Nat} {ps ks : List Str} {st : Stmt} {x : Str} {p pos : Pos} {e : Expr} {es : List Expr} {kws : List Keyword}
  {g : List Value → List Value → List Value} {gV : List V → List V → List V} {gD : List D → List D → List D}
variable {sp : PSp} {t tk : DX (List D)}
end
/-! ### range(a, b, c), any step -/
def rngS : List D → (List D → Prop) → Prop
  | [.int i, .int j, .int c], k => c ≠ 0 ∧ c.natAbs < 1073741824 ∧ Builtin.Range.small i j c = true ∧ k (rngC i c (Builtin.Range.rangeSize i j c).toNat)
  | _, _ => False
theorem e_rngS (i j c : Int) (k : List D → Prop) : rngS [.int i, .int j, .int c] k = (c ≠ 0 ∧ c.natAbs < 1073741824 ∧ Builtin.Range.small i j c = true ∧ k (rngC i c (Builtin.Range.rangeSize i j c).toNat)) := rfl
section
variable {X : Cx} {W : WX} {a b c tg : Expr} {p pos : Pos}
end
end Lay

set_option Elab.async false
set_option linter.all false
set_option maxRecDepth 100000
set_option maxHeartbeats 2000000
namespace Lay
open PySem PySem.Spec PyProof.Rows L2
open MeetsSeq MeetsSeq2 MeetsSeq3 SeqRoads2
/-! ### enumerate(x), x a list, a tuple or a text -/
abbrev enumObj (n : Nat) : Obj := { cls := .type "enumerate", data := .fields #[.none, .bool false, .ref n, rawInt 0, .none, .none] }
/-- the items in new pairs with their places -/
def IteG (K : PySem.W.Frag) (p : ZS) : It :=
  ⟨fun i H => ∃ (xs : List V) (x : V), p.at K H xs ∧ xs[i]? = some x,
   fun i H v H' => ∃ T x, v = .ref T ∧ H T = none ∧ H' = upd H T (.tup [.int (i : Nat), x]) ∧ ∀ xs, p.at K H xs → xs[i]? = some x,
   fun i H => ∃ xs : List V, p.at K H xs ∧ i = xs.length⟩
section
variable {X : Cx} {W : WX} {e a b : Expr} {pos p : Pos}
def iEnumG (K : PySem.W.Frag) (ta : TA) : TI := fun σ H R => ta σ H fun vs H1 => ∃ p xs v1, vs = [v1] ∧ ZS.val p v1 ∧ p.at K H1 xs ∧ R (IteG K p) H1
def enumG : List D → (List D → Prop) → Prop
  | [d], k => iterD d fun ds => k (ds.mapIdx fun i d => .tup [.int i, d])
  | _, _ => False
theorem e_enumG (d : D) (k : List D → Prop) : enumG [d] k = iterD d (fun ds => k (ds.mapIdx fun i d => .tup [.int i, d])) := rfl
end
end Lay

set_option Elab.async false
set_option linter.all false
set_option maxRecDepth 100000
set_option maxHeartbeats 2000000
namespace Lay
open PySem PySem.Spec PyProof.Rows L2
/-! ### list(text), and list(..) as a list of one's own -/
theorem call_list_txt {X : Cx} (hc : X.calm = true) : CallR X (.type "list") (fun xs H Q => ∃ z : Str, xs = [.str z] ∧ z.length ≤ sizeLine ∧ ∀ p, H p = none → Q (.ref p) (upd H p (.lst (signsV z)))) := by
  rintro pins s σ H xs us Q I r ⟨z, rfl, hz, q⟩
  obtain ⟨u, rfl, t, rfl⟩ := vals1 r
  refine call_list_str (I.ok.hd hc) z t (fun h' tk acc' c' hk hS hacc => ?_) hz
  have el : acc'.toList.length = acc'.size := by simp
  refine ⟨.ref s.heap.objs.size, upd H s.heap.objs.size (.lst (signsV z)), I.laid hk (Nat.le_refl _) (show ObjOk X.prog X.w _ _ _ (.lst (signsV z)) from ⟨?_, acc'.toList, c', ?_, ?_⟩), rfl, q _ (I.hok.fresh (Nat.le_refl _))⟩
  · unfold signsV; rw [List.length_map]; exact hz
  · refine vals_of_at (by rw [el, hacc.1]; unfold signsV; rw [List.length_map, Array.length_toList]) fun j x w h1 h2 => ?_
    obtain ⟨c, u, ec, rfl⟩ := hacc.2 j w (by rw [← Array.getElem?_toList]; exact h2)
    unfold signsV at h1
    rw [List.getElem?_map, Array.getElem?_toList, ec] at h1
    cases h1
    exact ⟨u, rfl⟩
  · exact hS
section
variable {X : Cx} {W : WX} {e : Expr} {pos : Pos}
def listN : List D → (List D → Prop) → Prop
  | [.str z], k => z.length ≤ sizeLine ∧ k (signsD z)
  | [.lst ds], k => k ds
  | [.rol ds], k => k ds
  | [.tup ds], k => k ds
  | _, _ => False
def dListN (t : DX (List D)) : DX (List D) := fun ρ z R RX => t ρ z (fun ds ρ1 z1 => listN ds fun es => R es ρ1 z1) RX
theorem dn_list {x : Str} {p : Pos} {t : DX (List D)} (hc : X.calm = true) (hg : Gl X x) (hm : X.mg x = none) (hv : bootBuiltins x = some (.type "list")) (ha : DA X W [e] t)
    (hn : x ≠ "__name__" := by decide) (hdb : (x == ("__debug__" : Str)) = false := by decide) (he : starEach [e] X.env = (false, eval e X.env) :: starEach [] X.env := by rfl)
    (hpl : (backTo pos (starEach [] X.env)).any (·.1) = false := by rfl) : DN X W (.Call (.Name x p) [e] [] pos) (dListN t) :=
  pe_to (pe_callTy (call_list_of.or (call_list_txt hc)) hg hm hv ha hn hdb he hpl) fun σ H Q ⟨M, ρ, z, O, R, RX, w, h, x, k⟩ => by
  refine ⟨M, ρ, z, O, _, RX, w, h, x, fun ds ρ1 z1 vs H1 O1 hd g1 w1 r1 => ?_⟩
  unfold listN at hd
  split at hd
  · obtain ⟨v, rfl, r2⟩ := r1.one
    obtain rfl := r2.str
    exact .inr ⟨_, rfl, hd.1, fun p hp => k _ ρ1 z1 p _ H1 _ O1 hd.2 g1 w1 (same_new hp) hp upd_same (reps_signs _)⟩
  · obtain ⟨v, rfl, r2⟩ := r1.one
    obtain ⟨a, vs, rfl, q1, q2⟩ := r2.lst
    exact .inl ⟨a, vs, rfl, .inl (SqL.of q1), fun p hp => k _ ρ1 z1 p _ H1 _ O1 hd g1 w1 (same_new hp) hp upd_same q2⟩
  · obtain ⟨v, rfl, r2⟩ := r1.one
    obtain ⟨a, vs, rfl, q1, q2⟩ := r2.rol
    exact .inl ⟨a, vs, rfl, .inl q1, fun p hp => k _ ρ1 z1 p _ H1 _ O1 hd g1 w1 (same_new hp) hp upd_same q2⟩
  · obtain ⟨v, rfl, r2⟩ := r1.one
    obtain ⟨a, vs, rfl, q1, q2⟩ := r2.tup
    exact .inl ⟨a, vs, rfl, .inr q1, fun p hp => k _ ρ1 z1 p _ H1 _ O1 hd g1 w1 (same_new hp) hp upd_same q2⟩
  · exact hd.elim
theorem ap_dListN (t : DX (List D)) (s0 : Sl) (ρ0 : List Sl) (z : Z) (R : List D → List Sl → Z → Prop) (RX : KX) : dListN t (s0 :: ρ0) z R RX = t (s0 :: ρ0) z (fun ds ρ1 z1 => listN ds fun es => R es ρ1 z1) RX := rfl
theorem e_listN1 (z : Str) (k : List D → Prop) : listN [.str z] k = (z.length ≤ sizeLine ∧ k (signsD z)) := rfl
theorem e_listN2 (ds : List D) (k : List D → Prop) : listN [.lst ds] k = k ds := rfl
theorem e_listN3 (ds : List D) (k : List D → Prop) : listN [.rol ds] k = k ds := rfl
theorem e_listN4 (ds : List D) (k : List D → Prop) : listN [.tup ds] k = k ds := rfl
end
/-! ### a pair: a list of one's own, and a value -/
section
variable {X : Cx} {W : WX} {a b : Expr} {pos : Pos}
theorem XOk.hide {K : PySem.W.Frag} {M : Addr → Prop} {H1 H1' : Hp} {z1 : Z} {O1 : Nat → Option Addr} {p1 : Addr} {RX : KX} (k : XOk K M W H1 z1 O1 RX) (n1 : H1 p1 = none) (s1 : Same H1 H1') : XOk K (Lay.more M p1) W H1' z1 O1 RX := fun C ns ds ρ' z' od H' O' σ' hx g w' ex => by
  have lt : ∀ a, H1' a = none → H1 a = none := fun a q => Classical.byContradiction fun n => by
    cases e : H1 a with
    | none => exact n e
    | some u => rw [s1 a u e] at q; cases q
  have g0 : Go M H1 z1 O1 H' z' O' := ⟨fun a u h n => g.st a u (s1 a u h) fun q => q.more.elim n fun e => (by rw [e, n1] at h; cases h), fun a u m h => g.km a u (.inl m) (s1 a u h), fun a h => by
    rcases g.nw a h.less with q | q
    · rcases q.more with q | q
      · exact .inl q
      · exact .inr (by rw [q]; exact n1)
    · exact .inr (lt a q), fun a h => (g.zp a h).imp id (lt a), fun a h => g.al a fun q => h (lt a q)⟩
  have wl : Wd K M H' σ' ρ' z' O' := ⟨w'.len, fun a h => w'.al a (.inl h), w'.pot.to ⟨fun a o q _ => q, fun a q => .inl q.less⟩ fun _ _ _ q => q, fun a h m => w'.pm a h (.inl m), fun i a h => let ⟨q1, q2, q3, q4⟩ := w'.ow i a h; ⟨fun m => q1 (.inl m), q2, q3, q4⟩, fun i s h => (w'.sl i s h).mono ⟨fun a o q _ => q, fun a q => .inl q.less⟩ fun _ _ _ q => q, w'.out⟩
  exact k C ns ds ρ' z' od H' O' σ' hx g0 wl (ex.mono ⟨fun a o q _ => q, fun a q => .inl q.less⟩)
def dPairON (i j : Nat) (t1 : DX (List D)) (t2 : DX D) : DTS := fun R ρ z => t1 ρ z (fun xs ρ1 z1 => t2 ρ1 z1 (fun d ρ2 z2 => i < ρ2.length ∧ R.nx ((ρ2.set i (.own xs)).set j (.val d)) z2) R.ex) R.ex
theorem ap_dPairON (i j : Nat) (t1 : DX (List D)) (t2 : DX D) (R : DEnds) (s0 : Sl) (ρ0 : List Sl) (z : Z) : dPairON i j t1 t2 R (s0 :: ρ0) z = t1 (s0 :: ρ0) z (fun xs ρ1 z1 => t2 ρ1 z1 (fun d ρ2 z2 => i < ρ2.length ∧ R.nx ((ρ2.set i (.own xs)).set j (.val d)) z2) R.ex) R.ex := rfl
end
/-! ### defs with defaults -/
abbrev dD (st : Stmt) (m : Str) (q : Str) (dvs : List V) (K : PySem.W.Frag) : Addr → FuncData → Prop := fun f fd => FunD K m q (defArgs st) (defBody st) (defScope st) dvs [] f fd
section
variable {P : Program} {w : World} {K : PySem.W.Frag} {mg : Str → Option Value} {base : Heap} {k : Nat} {f : Addr} {fd : FuncData} {ps : List Str} {x qual : Str} {st : Stmt} {N : List Str} {dvs : List V}
theorem gbodyD2 {sp : Sp} {CY : CXT} (F : FunD K x qual (defArgs st) (defBody st) (defScope st) dvs [] f fd) (S : FnScope N ps (defScope st))
    (ln : ∀ vs H Q E, sp vs H Q E → vs.length = ps.length)
    (hb : ∀ (cdv : Value) (A : Around) (outer : List Env) (s : Shared) (H : Hp) (vs : List V) (Q : VK) (E : XK),
      Room k (A.deeper (envOfC qual (defScope st) s.heap.objs.size f cdv)) →
      (A.deeper (envOfC qual (defScope st) s.heap.objs.size f cdv)).guards = some [] → sp vs H Q E →
      ∃ t, PSs (cxOf CY P w K mg base N qual (defScope st) f cdv A outer s H E) (defBody st) t ∧
        t { nx := fun _ H' => Q .non H', rt := Q } (start N vs) H) : FnG P w K mg base CY (k + 1) f fd ps sp := by
  obtain ⟨oc, od, dV, kV, doc, pm, an, cdv, ct, osl, rfl, lk, hcd, _, _⟩ := F.ex
  exact fg_of lk hcd S ln fun A outer s H vs Q E hr hg hsp => hb cdv A outer s H vs Q E hr hg hsp
/-- a def of the top with defaults, as its callers see it -/
structure CalleeD (P : Program) (w : World) (K : PySem.W.Frag) (mg : Str → Option Value) (base : Heap) (CX : CXT) (k : Nat) (x : Str) (D' : Addr → FuncData → Prop) (ps : List Str) (sp : Sp) : Prop where
  ex : ∃ (f : Addr) (fd : FuncData), mg x = some (.ref f) ∧ D' f fd ∧ PySem.W.keepIn K (.ref f) = true ∧ Binds K fd ps [] ∧ FnG P w K mg base CX k f fd ps sp
end
section
variable {X : Cx} {W : WX} {CX : CXT} {j k n : Nat} {ps ks : List Str} {x : Str} {p pos : Pos} {e : Expr} {es : List Expr} {kws : List Keyword} {D' : Addr → FuncData → Prop}
  {gV : List V → List V → List V} {gD : List D → List D → List D}
variable {sp : PSp} {t tk : DX (List D)}
end
end Lay

set_option Elab.async false
set_option linter.all false
set_option maxRecDepth 100000
set_option maxHeartbeats 2000000
namespace Lay
open PySem PySem.Spec PyProof.Rows L2 SeqAt
open AutoSeq1 (wpAny_loadPart')
open MeetsSeq MeetsSeq2 MeetsSeq3 SeqRoads2
/-! ### x in t, t a tuple with own instances -/
section
variable {prog : Program} {w : World} {A : Around} {E : Value → Shared → Prop} {s : Shared}
end
section
variable {X : Cx} {j k : Nat} {C : Addr} {D' : Addr → FuncData → Prop} {ps : List Str} {sp : PSp} {W : WX} {a b : Expr} {pos : Pos}
def rInO (K : PySem.W.Frag) (C : Addr) (sp : Sp) (n : Nat) (f : Bool → Bool) : R2 := fun x y H Q => ∃ (G : Hp → Prop) (e : Nat → Bool) (t : Addr) (ws : List V), y = .ref t ∧ SqT K H t ws ∧ G H ∧ (TupInj K H → ∀ (j : Nat) (v : V), ws[j]? = some v → HEq' K C sp G n v x (e j)) ∧ ∀ H', G H' → Q (.bl (f ((List.range ws.length).any e))) H'
/-- x in t, x not in t -/
def dInO (n : Nat) (C : Addr) (sp : PSp) (f : Bool → Bool) (ta tb : DX D) : DX D := fun ρ z R RX => ta ρ z (fun d1 ρ1 z1 => tb ρ1 z1 (fun d2 ρ2 z2 => ∃ (ys : List D) (e : Nat → Bool), d2 = .tup ys ∧ (∀ (j : Nat) (y : D), ys[j]? = some y → EqI C sp z2 n y d1 (e j)) ∧ R (.bl (f ((List.range ys.length).any e))) ρ2 z2) RX) RX
theorem ap_dInO (n : Nat) (C : Addr) (sp : PSp) (f : Bool → Bool) (ta tb : DX D) (s0 : Sl) (ρ0 : List Sl) (z : Z) (R : D → List Sl → Z → Prop) (RX : KX) : dInO n C sp f ta tb (s0 :: ρ0) z R RX = (ta (s0 :: ρ0) z (fun d1 ρ1 z1 => tb ρ1 z1 (fun d2 ρ2 z2 => ∃ (ys : List D) (e : Nat → Bool), d2 = .tup ys ∧ (∀ (j : Nat) (y : D), ys[j]? = some y → EqI C sp z2 n y d1 (e j)) ∧ R (.bl (f ((List.range ys.length).any e))) ρ2 z2) RX) RX) := rfl
end
end Lay

set_option Elab.async false
set_option linter.all false
set_option maxRecDepth 100000
set_option maxHeartbeats 2000000
namespace Lay
open PySem PySem.Spec PyProof.Rows L2
/-! ### y = x.pop(e), x a list of one's own -/
theorem Reps.eraseIdx {K : PySem.W.Frag} {N : Addr → Prop} {H : Hp} : ∀ {ds : List D} {vs : List V} (m : Nat), Reps K N H ds vs → Reps K N H (ds.eraseIdx m) (vs.eraseIdx m)
  | [], vs, m, r => by rw [Reps] at r; subst r; exact .nil
  | d :: ds, vs, 0, r => by
    rw [Reps] at r
    obtain ⟨v, q, rfl, h, r⟩ := r
    exact r
  | d :: ds, vs, m + 1, r => by
    rw [Reps] at r
    obtain ⟨v, q, rfl, h, r⟩ := r
    exact .cons h (Reps.eraseIdx m r)
section
variable {X : Cx} {W : WX} {e : Expr} {pos : Pos}
def popD (s : Option Sl) (d : D) (k : D → List D → Prop) : Prop := match s, d with
  | some (.own ds), .int n => ∃ (m : Nat) (v : D), n = (m : Nat) ∧ m ≤ 1000000000 ∧ ds[m]? = some v ∧ k v (ds.eraseIdx m)
  | _, _ => False
def dPopSet (i j : Nat) (te : DX D) : DTS := fun R ρ z => ∃ ds0, ρ[i]? = some (.own ds0) ∧ te ρ z (fun d ρ' z' => popD (ρ'[i]?) d fun v es => R.nx ((ρ'.set i (.own es)).set j (.val v)) z') R.ex
theorem ap_dPopSet (i j : Nat) (te : DX D) (R : DEnds) (s0 : Sl) (ρ0 : List Sl) (z : Z) : dPopSet i j te R (s0 :: ρ0) z = ∃ ds0, (s0 :: ρ0)[i]? = some (.own ds0) ∧ te (s0 :: ρ0) z (fun d ρ' z' => popD (ρ'[i]?) d fun v es => R.nx ((ρ'.set i (.own es)).set j (.val v)) z') R.ex := rfl
theorem e_popD (ds : List D) (n : Int) (k : D → List D → Prop) : popD (some (.own ds)) (.int n) k = ∃ (m : Nat) (v : D), n = (m : Nat) ∧ m ≤ 1000000000 ∧ ds[m]? = some v ∧ k v (ds.eraseIdx m) := rfl
/-! x.append(y.pop(e)) -/
def dAppPop (i j : Nat) (te : DX D) : DTS := fun R ρ z => ∃ ds0 es0, ρ[i]? = some (.own ds0) ∧ ρ[j]? = some (.own es0) ∧ te ρ z (fun d ρ' z' => ∃ ds, ρ'[i]? = some (.own ds) ∧ ds.length < sizeLine ∧ popD (ρ'[j]?) d fun v es => R.nx ((ρ'.set j (.own es)).set i (.own (ds ++ [v]))) z') R.ex
theorem ap_dAppPop (i j : Nat) (te : DX D) (R : DEnds) (s0 : Sl) (ρ0 : List Sl) (z : Z) : dAppPop i j te R (s0 :: ρ0) z = ∃ ds0 es0, (s0 :: ρ0)[i]? = some (.own ds0) ∧ (s0 :: ρ0)[j]? = some (.own es0) ∧ te (s0 :: ρ0) z (fun d ρ' z' => ∃ ds, ρ'[i]? = some (.own ds) ∧ ds.length < sizeLine ∧ popD (ρ'[j]?) d fun v es => R.nx ((ρ'.set j (.own es)).set i (.own (ds ++ [v]))) z') R.ex := rfl
end
end Lay

set_option Elab.async false
set_option linter.all false
set_option maxRecDepth 100000
set_option maxHeartbeats 2000000
namespace Lay
open PySem PySem.Spec PyProof.Rows L2
/-! ### x is True, x is not False -/
section
variable {X : Cx}
def isB (f : Bool → Bool) : Op2
  | .bl a, .bl b, k => k (.bl (f (decide (a = b))))
  | _, _, _ => False
theorem e_isB (f : Bool → Bool) (a b : Bool) (k : D → Prop) : isB f (.bl a) (.bl b) k = k (.bl (f (decide (a = b)))) := rfl
end
/-! ### isinstance of the exception that is caught -/
theorem IsC.kit {K : PySem.W.Frag} {C : Addr} (h : IsC K C) {t : Value} {b : Bool} (hn : (t == .ref C) = false) (hs : PySem.W.subIn K t (.ref C) = some b) : PySem.W.kitOne K t (.ref C) = some b := by
  unfold PySem.W.kitOne
  rw [if_neg (by rw [hn]; exact Bool.false_ne_true)]
  unfold PySem.W.kitCls
  have q : (PySem.W.clsIn K C).isSome = true := h.c
  show (if ((PySem.W.clsIn K C).isSome && PySem.W.typeIn K (.ref C) == some (.type "type")) = true then PySem.W.subIn K t (.ref C) else none) = some b
  rw [if_pos (by rw [q, h.t]; rfl)]
  exact hs
def clsDs : List D → Option (List Value)
  | [] => some []
  | d :: ds => (clsD d).bind fun u => (clsDs ds).map (u :: ·)
theorem cls_of {K : PySem.W.Frag} {N : Addr → Prop} {H : Hp} {d : D} {v : V} {u : Value} (r : Rep K N H d v) (h : clsD d = some u) : ClsV v u := by
  cases d with
  | ty n => rw [Rep] at r; subst r; cases h; exact .ty n
  | adr a => rw [Rep] at r; subst r; cases h; exact .own a
  | _ => cases h
theorem clss_of {K : PySem.W.Frag} {N : Addr → Prop} {H : Hp} : ∀ {ds : List D} {vs : List V} {us : List Value}, Reps K N H ds vs → clsDs ds = some us → Paired ClsV vs us
  | [], vs, us, r, h => by rw [Reps] at r; subst r; cases h; exact .nil
  | d :: ds, vs, us, r, h => by
    rw [Reps] at r
    obtain ⟨v, q, rfl, r1, r2⟩ := r
    obtain ⟨u, e1, h⟩ := Option.bind_eq_some_iff.mp h
    obtain ⟨ws, e2, rfl⟩ := Option.map_eq_some_iff.mp h
    exact .cons (cls_of r1 e1) (clss_of r2 e2)
/-- whether a class, or one of some, has the instances of t -/
def isOf (K : PySem.W.Frag) (t : Value) : D → Bool → Prop
  | .tup ds, b => ∃ us, clsDs ds = some us ∧ PySem.W.kitAny K t us = some b
  | d, b => ∃ u, clsD d = some u ∧ PySem.W.kitOne K t u = some b
def rIsX (K : PySem.W.Frag) (cls : Value) (a : Addr) (d : Option Addr) : List V → Hp → VK → Prop := fun xs H Q => ∃ (C : Addr) (c : V) (b : Bool), cls = .ref C ∧ ExcC K C ∧ xs = [.ref a, c] ∧ (∀ dd, d = some dd → ∃ fs, H dd = some (.xd fs)) ∧
  ((∃ u, ClsV c u ∧ PySem.W.kitOne K (.ref C) u = some b) ∨ ∃ tp cs us, c = .ref tp ∧ SqT K H tp cs ∧ Paired ClsV cs us ∧ PySem.W.kitAny K (.ref C) us = some b) ∧ Q (.bl b) H
section
variable {X : Cx} {W : WX} {a : Addr} {oe : Obj} {cls : Value} {od : Option Addr} {pn : List (Addr × Obj)}
def dIsX (K : PySem.W.Frag) (a : Addr) (cls : Value) (od : Option Addr) (i : Nat) (tc : DX D) : DX D := fun ρ z R RX => match ρ[i]? with
  | some (.exc a' od' ns ds) => a' = a ∧ od' = od ∧ tc ρ z (fun c ρ' z' => (∃ ns' ds', ρ'[i]? = some (.exc a od ns' ds')) ∧ ∃ C b, cls = .ref C ∧ ExcC K C ∧ isOf K (.ref C) c b ∧ R (.bl b) ρ' z') RX
  | _ => False
theorem ap_dIsX (K : PySem.W.Frag) (a : Addr) (cls : Value) (od : Option Addr) (i : Nat) (tc : DX D) (s0 : Sl) (ρ0 : List Sl) (z : Z) (R : D → List Sl → Z → Prop) (RX : KX) : dIsX K a cls od i tc (s0 :: ρ0) z R RX = (match (s0 :: ρ0)[i]? with
  | some (.exc a' od' ns ds) => a' = a ∧ od' = od ∧ tc (s0 :: ρ0) z (fun c ρ' z' => (∃ ns' ds', ρ'[i]? = some (.exc a od ns' ds')) ∧ ∃ C b, cls = .ref C ∧ ExcC K C ∧ isOf K (.ref C) c b ∧ R (.bl b) ρ' z') RX
  | _ => False) := rfl
end
/-! ### a, b, .. = a list -/
section
variable {X : Cx} {W : WX} {es : List Expr} {pos : Pos}
def dgLst (n : Nat) (gs : DTGs) : DTG := fun d ρ z R => match d with | .lst ds => ds.length = n ∧ gs ds ρ z R | _ => False
theorem ap_dgLst (n : Nat) (gs : DTGs) (ds : List D) (s : Sl) (ρ : List Sl) (z : Z) (R : List Sl → Z → Prop) : dgLst n gs (.lst ds) (s :: ρ) z R = (ds.length = n ∧ gs ds (s :: ρ) z R) := rfl
end
end Lay

set_option Elab.async false
set_option linter.all false
set_option maxRecDepth 100000
set_option maxHeartbeats 2000000
namespace Lay
open PySem PySem.Spec PyProof.Rows L2
/-! ### defs that may be called while a repr is under way -/
structure MethodA (P : Program) (w : World) (K : PySem.W.Frag) (mg : Str → Option Value) (base : Heap)
    (k : Nat) (C : Addr) (m : Str) (D : Addr → FuncData → Prop) (ps : List Str) (sp : Sp) : Prop where
  ex : ∃ (f : Addr) (fd : FuncData), Cls K C ∧ Meth K C m f ∧ D f fd ∧ Binds K fd ps [] ∧ FnOk P w K mg base CX0 k f fd ps sp
theorem MethodA.m {P : Program} {w : World} {K : PySem.W.Frag} {mg : Str → Option Value} {base : Heap} {k : Nat} {C : Addr} {m : Str} {D : Addr → FuncData → Prop} {ps : List Str} {sp : Sp}
    (M : MethodA P w K mg base k C m D ps sp) : Method P w K mg base CX0 k C m D ps sp := let ⟨f, fd, a, b, c, d, e⟩ := M.ex; ⟨f, fd, a, b, c, d, FnG.of e⟩
section
variable {X : Cx} {j k : Nat} {C f : Addr} {fd : FuncData} {D : Addr → FuncData → Prop} {ps : List Str} {sp : Sp} {pins : List (Addr × Obj)} {σ : L2.St} {H : Hp} {s : Shared}
  {Q : VK} {E : XK} {us : List Value} {vs : List V}
theorem acallA {A : Around} {E' : Value → Shared → Prop} (F : FnOk X.prog X.w X.K X.mg X.base CX0 k f fd ps sp) (hr : Room k A)
    (e0 : Env0 X.prog X.w X.K X.mg X.base A X.stack s H) (hb : Binds X.K fd ps []) (I : Inv X pins σ H s) (r : Vals vs us) (h : sp vs H Q E) :
    wpAny (model X.prog X.w) A (call (.ref f) us) (EP X pins σ Q) E' s := by
  have hl : us.length = ps.length := by rw [← r.length]; exact F.len _ _ _ _ h
  have bb := hb s us I.kIn (by rw [List.append_nil]; exact hl)
  rw [List.append_nil] at bb
  refine wpAny_call (codeAny_mono (F.run A X.stack s H ⟨us, []⟩ us vs Q E hr e0 bb r h) fun r s' hq => ?_)
  match r, hq with
  | .ok (.ret u), hq => exact I.after hq
theorem MethodA.str (M : MethodA X.prog X.w X.K X.mg X.base k C "__str__" D ps sp) (hr : Room j X.A) (hj : k + 2 ≤ j := by decide) : CallR X (.type "str") (rStrO C sp) := by
  obtain ⟨f, fd, c, hm, F, b, G⟩ := M.ex
  rintro pins s σ H _ us Q I r ⟨a, dx, fs, rfl, ea, z⟩
  obtain ⟨_, rfl, rfl⟩ := r.one
  obtain ⟨mA, O, _⟩ := ins_get I.hok ea
  obtain ⟨od, J, _⟩ := O.look
  have r2 := (Room.mono hr hj).in1.in1
  refine PySem.W.kso_call r2.units0 I.kIn J hm.at_ hm.fn (wpAny_mono (acallA (vs := [V.ref a]) G r2 I.env0.in1.in1 b I (.cons rfl .nil) z) (fun w s' hw => ?_) fun _ _ e => e)
  obtain ⟨v, H', I', rv, n, rfl, q⟩ := hw
  obtain ⟨t, rfl⟩ := (show ∃ t, w = Value.str n t from rv)
  exact ⟨.str n, H', I', ⟨_, rfl⟩, q⟩
end
section
variable {X : Cx} {W : WX} {e : Expr} {pos : Pos} {j k : Nat} {C : Addr} {D' : Addr → FuncData → Prop} {ps : List Str} {sp : PSp}
end
/-! ### repr of tuples, own instances within -/
theorem tup_depth (A : Around) (us : List Value) (id : String) (hi : id = "tuple.__repr__" ∨ id = "tuple.__repr__.under") : (A.under (.builtin id ⟨us, []⟩)).depth ≤ A.depth + 3 ∧ (A.under (.builtin id ⟨us, []⟩)).units = A.units + 1 ∧ (A.under (.builtin id ⟨us, []⟩)).handled = A.handled := by
  rcases hi with rfl | rfl
  · exact ⟨by first | exact Nat.le_add_right _ _ | simp [Around.under, Code.weight, Code.isCreation, Code.isGuard, Code.isCaller, Code.frames, Code.isFrame, guardIds], units_under_tuple_repr _ _, by first | rfl | simp [Around.under]⟩
  · exact ⟨by first | exact Nat.le_add_right _ _ | simp [Around.under, Code.weight, Code.isCreation, Code.isGuard, Code.isCaller, Code.frames, Code.isFrame, guardIds], units_under_tuple_repr_under _ _, by first | rfl | simp [Around.under]⟩
theorem Room.tup {k : Nat} {A : Around} (r : Room (k + 1) A) (us : List Value) {id : String} (hi : id = "tuple.__repr__" ∨ id = "tuple.__repr__.under") : Room k (A.under (.builtin id ⟨us, []⟩)) :=
  have ⟨h1, h2, h3⟩ := tup_depth A us id hi
  ⟨h3.trans r.hd, by have := r.dp; omega, by have := r.un; omega⟩
theorem Env0.tup {P : Program} {w : World} {K : PySem.W.Frag} {mg : Str → Option Value} {base : Heap} {A : Around} {outer : List Env} {s : Shared} {H : Hp} (e : Env0 P w K mg base A outer s H) (us : List Value) {id : String} (hi : id = "tuple.__repr__" ∨ id = "tuple.__repr__.under") :
    Env0 P w K mg base (A.under (.builtin id ⟨us, []⟩)) outer s H := by
  rcases hi with rfl | rfl
  · exact ⟨by first | exact e.frames | (simpa [Around.under, Code.envs, Code.isFrame, pushEnvs] using e.frames), e.mod, e.bs, e.bsz, e.funs, e.frf, e.hok, e.bare⟩
  · exact ⟨by first | exact e.frames | (simpa [Around.under, Code.envs, Code.isFrame, pushEnvs] using e.frames), e.mod, e.bs, e.bsz, e.funs, e.frf, e.hok, e.bare⟩
/-- a value by itself, and its text -/
inductive Leaf : V → Str → Prop
  | int {i : Int} (h : i.natAbs.log2 < 1920) : Leaf (.int i) (toString i)
  | str {x : Str} (h : (reprText x).length ≤ sizeLine) : Leaf (.str x) (reprText x)
  | bl {b : Bool} : Leaf (.bl b) (if b then "True" else "False")
  | non : Leaf .non "None"
inductive HSh (K : PySem.W.Frag) (C : Addr) (sp : Sp) (G : Hp → Prop) : List Addr → Nat → V → Str → Prop
  | own {as : List Addr} {n : Nat} {a : Addr} {t : Str} (h : ∀ H, G H → (∃ dx fs, H a = some (.ins C dx fs)) ∧ sp [.ref a] H (fun v H' => v = .str t ∧ G H') E0) : HSh K C sp G as n (.ref a) t
  | leaf {as : List Addr} {n : Nat} {v : V} {t : Str} (h : Leaf v t) : HSh K C sp G as n v t
  | tup {as : List Addr} {n : Nat} {a : Addr} {vs : List V} {ts : List Str} (ha : a ∉ as) (h : ∀ H, G H → SqT K H a vs) (hl : ts.length = vs.length) (ht : ∀ (j : Nat) (v : V) (t : Str), vs[j]? = some v → ts[j]? = some t → HSh K C sp G (a :: as) n v t) :
      HSh K C sp G as (n + 1) (.ref a) (tupleText ts)
/-- shown under way: from any state with G -/
def ShowsG (prog : Program) (w : World) (A : Around) (E : Value → Shared → Prop) (G : Shared → Prop) (t : Str) (x : Value) : Prop :=
  ∀ b, b + t.length ≤ sizeLine → ∀ s, G s → ∀ Q : Str → Shared → Prop, (∀ s', G s' → Q t s') → wpAny (model prog w) A (pyReprUnder b x) Q E s
section
variable {prog : Program} {w : World} {A : Around} {E : Value → Shared → Prop} {G : Shared → Prop}
/-- the items of a tuple shown one behind the other -/
theorem show_items {xs : List Value} {ts : List Str} {b : Nat} (hT : Paired (ShowsG prog w A E G) ts xs) (hn : b + piled ts ≤ sizeLine) {s : Shared} (hs : G s) {Q : (Array Str × Nat) → Shared → Prop} (hQ : ∀ s', G s' → Q ⟨ts.toArray, b + piled ts⟩ s') :
    wpAny (model prog w) A (forIn xs (⟨#[], b⟩ : Array Str × Nat) tupBody) Q E s := by
  refine wpAny_forIn_list _ (fun rest st s' => G s' ∧ ∃ us, Paired (ShowsG prog w A E G) us rest ∧ st.2 + piled us = b + piled ts ∧ st.1.toList ++ us = ts) _ ?_ ?_ _ _ ⟨hs, ts, hT, rfl, rfl⟩
  · rintro x rest ⟨acc, n⟩ s' ⟨g, us, hp, hl, hc⟩
    match us, hp with
    | t :: us, .cons hx hr =>
      rw [piled_cons] at hl
      unfold tupBody
      refine wpAny_bind (hx _ (by show n + 1 + _ ≤ _; have : n + (t.length + 2 + piled us) = b + piled ts := hl; omega) s' g _ fun s2 g2 => wpAny_pure ⟨g2, us, hr, ?_, ?_⟩)
      · show n + (t.length + 2) + piled us = _
        rw [← hl]
        exact Nat.add_assoc _ _ _
      · show (acc.push t).toList ++ us = ts
        rw [Array.toList_push, List.append_assoc]
        exact hc
  · rintro ⟨acc, n⟩ s' ⟨g, us, hp, hl, hc⟩
    cases hp
    rw [List.append_nil] at hc
    have e1 : acc = ts.toArray := by rw [← hc]
    have e2 : n = b + piled ts := hl
    rw [e1, e2]
    exact hQ s' g
/-- a tuple's own repr, under way or not -/
theorem tup_shown {s : Shared} {a : Addr} {xs : Array Value} {ts : List Str} {b : Nat} {id : String} {rest : List Value} {g : List Code} {R : Result → Shared → Prop} (hi : id = "tuple.__repr__" ∨ id = "tuple.__repr__.under") (ha : s.heap.IsTuple a xs) (hg : A.guards = some g)
    (hno : ∀ c ∈ g, tupGuardF (.ref a) (c, default) = false) (hs : G s) (hT : Paired (ShowsG prog w (A.under (.builtin id ⟨.ref a :: rest, []⟩)) (fun e s' => R (.error e) s') G) ts xs.toList) (hl : ts.length = xs.size) (hz : b + (tupleText ts).length ≤ sizeLine)
    (hG : ∀ s t, G s → G { s with toks := t }) (hR : ∀ s' u, G s' → R (.ok (.ret (.str (tupleText ts) u))) s') :
    wpOwn (model prog w) A (.builtin id ⟨.ref a :: rest, []⟩) (Builtin.tupleReprAt b ⟨[.ref a], []⟩) (fun fin s' => match fin with | .done f => R (.ok f) s' | .again c' => c'.quiet = true ∧ codeAny (model prog w) A c' R s') (fun e s' => R (.error e) s') s := by
  obtain ⟨n, dd, sl, ea⟩ := tup_obj ha
  have hp := piled_le_tupleText ts
  rw [tuple_repr_tree, tupleReprUnderWay_eq]
  refine wpOwn_bind (wpOwn_stackTailAny hg (tupGuardF_off _) (tupGuardF_pos _) ?_)
  rw [show (g.any fun c => tupGuardF (.ref a) (c, default)) = false from List.any_eq_false.mpr fun c m => by rw [hno c m]; exact Bool.false_ne_true]
  refine wpOwn_of_wpAny ?_
  rw [if_neg Bool.false_ne_true]
  unfold tupleReprRest Builtin.Tuple.tupleItemsOf
  refine wpAny_bind (wpAny_bind (wpAny_seqItems ea rfl (wpAny_pure ?_)))
  rw [← Array.forIn_toList]
  refine wpAny_bind (show_items hT (by omega) hs fun s' g' => ?_)
  have e : (("(" : Str) ++ Str.join ", " ts.toArray.toList ++ (if xs.size == 1 then ",)" else ")" : String)) = tupleText ts := by unfold tupleText; rw [hl]
  rw [e]
  exact wpAny_bind (wpAny_mkStr (wpAny_pure (hR _ _ (hG _ _ g'))) (by omega))
end
section
variable {X : Cx} {j k : Nat} {C : Addr} {D' : Addr → FuncData → Prop} {ps : List Str} {sp : Sp} {pins : List (Addr × Obj)} {σ : L2.St}
theorem boundBy_K {prog : Program} {w : World} {A : Around} {E : Value → Shared → Prop} {s : Shared} {K : PySem.W.Frag} {x C f : Addr} {ox : Obj} {od : Option Obj} {name : Str} {last : Value → List Value → Sem Value} {Q : Option Value → Shared → Prop} (X : K.In s.heap) (I : PySem.W.InstAt s.heap x ox C od)
    (hs : PySem.W.findIn K (.ref C) name = some (some (.ref f))) (hf : PySem.W.isFn K (.ref f) = true) (h : wpAny (model prog w) A (last (.ref f) [.ref x]) (fun v => Q (some v)) E s) : wpAny (model prog w) A (callSpecialIfBoundBy? last (.ref x) name) Q E s := by
  have fin : wpAny (model prog w) A (last (.ref f) [.ref x] >>= fun v => pure (some v)) Q E s := wpAny_bind (wpAny_mono h (fun _ _ y => wpAny_pure y) fun _ _ y => y)
  simp only [callSpecialIfBoundBy?, bindSpecialIfBound?]
  refine wpAny_holding (wpAny_bind (wpAny_bind (wpAny_bind (I.type.here ((PySem.W.looks_findIn X hs).here (wpAny_bind (wpAny_askSetting (wpAny_ite ?_))))))))
  split
  · exact wpAny_bind ((PySem.W.bind_fn X _ (beq_iff_eq.mp hf)).here (wpAny_pure (by exact fin)))
  · exact wpAny_tryCatch (wpAny_bind ((PySem.W.bind_fn X _ (beq_iff_eq.mp hf)).here (wpAny_pure (by exact fin))))
theorem ownUnder_K {prog : Program} {w : World} {A : Around} {E : Value → Shared → Prop} {s : Shared} {K : PySem.W.Frag} {x C f : Addr} {ox : Obj} {od : Option Obj} {b : Nat} {Q : Str → Shared → Prop} (hb : b ≤ sizeLine) (hu : A.units < cLine) (X : K.In s.heap) (I : PySem.W.InstAt s.heap x ox C od)
    (hs : PySem.W.findIn K (.ref C) "__repr__" = some (some (.ref f))) (hf : PySem.W.isFn K (.ref f) = true) (h : wpAny (model prog w) A (call (.ref f) [.ref x]) (fun v s' => ∃ t u, v = .str t u ∧ Q t s') E s) :
    wpAny (model prog w) A (pyReprUnder b (.ref x)) Q E s := by
  refine wpAny_pyReprUnder_ref hb ?_
  unfold pyReprObjUnder pyReprObjBy
  refine wpAny_bind (wpAny_cRoomFor hu (wpAny_bind (wpAny_bind (I.type.here ((PySem.W.looks_findIn X hs).here ?_)))))
  show wpAny _ _ (if (some (Value.ref f)).isNone = true then _ else _) _ _ _
  rw [if_neg (by simp)]
  refine wpAny_bind (boundBy_K X I hs hf (wpAny_mono h (fun v s' hv => ?_) fun _ _ y => y))
  obtain ⟨t, u, rfl, q⟩ := hv
  refine wpAny_bind (wpAny_isInstance (T := "str") (b := true) rfl isSubtype_str_str ?_)
  first
    | exact wpAny_pure ⟨_, _, rfl, q⟩
    | (rw [if_pos rfl]; exact wpAny_pure ⟨_, _, rfl, q⟩)
/-- no guard asks for an address that is not among as -/
def Off (as : List Addr) (g : List Code) : Prop := ∀ a, a ∉ as → ∀ c ∈ g, tupGuardF (.ref a) (c, default) = false
theorem Off.cons {as : List Addr} {g : List Code} (h : Off as g) (a : Addr) (id : String) (rest : List Value) : Off (a :: as) (.builtin id ⟨.ref a :: rest, []⟩ :: g) := fun b hb c hc => by
  rw [List.mem_cons, not_or] at hb
  rcases List.mem_cons.mp hc with rfl | hc
  · show (Value.ref a == Value.ref b && _) = false
    rw [show (Value.ref a == Value.ref b) = false from beq_eq_false_iff_ne.mpr fun q => hb.1 (by injection q with q; exact q.symm)]
    rfl
  · exact h b hb.2 c hc
theorem MethodA.under (M : MethodA X.prog X.w X.K X.mg X.base k C "__repr__" D' ps sp) {G : Hp → Prop} {E : Value → Shared → Prop} : ∀ {as : List Addr} {n : Nat} {v : V} {t : Str}, HSh X.K C sp G as n v t → ∀ {A : Around} {g : List Code}, Room (k + n) A → A.guards = some g → Off as g →
    (∀ H s, Inv X pins σ H s → Env0 X.prog X.w X.K X.mg X.base A X.stack s H) → ∀ {u : Value}, RelV v u → ShowsG X.prog X.w A E (fun s => ∃ H, Inv X pins σ H s ∧ G H) t u := by
  intro as n v t h
  induction h with
  | @own as n a t h =>
    intro A g hr hg ho hA u ru b hb s ⟨H, I, hG⟩ Q hQ
    obtain ⟨f, fd, c0, hm, F, bb, Gf⟩ := M.ex
    obtain rfl : u = Value.ref a := ru
    obtain ⟨⟨dx, fs, ea⟩, z⟩ := h H hG
    obtain ⟨mA, O, _⟩ := ins_get I.hok ea
    obtain ⟨od, J, _⟩ := O.look
    refine ownUnder_K (by omega) hr.units0 I.kIn J hm.at_ hm.fn (wpAny_mono (acallA (vs := [V.ref a]) Gf (hr.mono (Nat.le_add_right _ _)) (hA _ _ I) bb I (.cons rfl .nil) z) (fun w s' hw => ?_) fun _ _ e => e)
    obtain ⟨v, H', I', rv, rfl, hG'⟩ := hw
    obtain ⟨u, rfl⟩ := (show ∃ u, w = Value.str t u from rv)
    exact ⟨_, _, rfl, hQ s' ⟨H', I', hG'⟩⟩
  | @leaf as n v t h =>
    intro A g hr hg ho hA u ru b hb s ⟨H, I, hG⟩ Q hQ
    have fin : ∀ tk, Q t { s with toks := tk } := fun tk => hQ _ ⟨H, I.tok tk, hG⟩
    cases h with
    | int h => obtain ⟨tk, rfl⟩ := ru; exact ReprIs.int tk h b hb _ _ _ _ fin
    | str h => obtain ⟨tk, rfl⟩ := ru; exact ReprIs.str _ tk h b hb _ _ _ _ fin
    | bl => obtain rfl := (show u = _ from ru); exact ReprIs.bool _ b hb _ _ _ _ fin
    | non => obtain rfl := (show u = _ from ru); exact ReprIs.none b hb _ _ _ _ fin
  | @tup as n a vs ts ha h hl ht ih =>
    intro A g hr hg ho hA u ru b hb s ⟨H, I, hG⟩ Q hQ
    obtain rfl : u = Value.ref a := ru
    obtain ⟨its, rs, hT, _⟩ := I.tuple (h H hG)
    have ll := rs.length
    obtain ⟨m, dd, sl, eo⟩ := tup_obj hT
    refine wpAny_pyReprUnder_ref (by omega) (wpAny_pyReprObjUnder_twin (twin := "tuple.__repr__.under") ⟨_, eo, rfl⟩ F.slot_tuple_repr rfl hr.units0
      (call_twin_own (F.quiet_tuple_repr_under _) F.entry_tuple_repr_under F.check_tuple_repr_under ⟨_, eo, rfl⟩ F.slot_tuple_repr (F.args_tuple_repr_1 _)
        (tup_shown (ts := ts) (R := callEnd _ E) (G := fun s => ∃ H, Inv X pins σ H s ∧ G H) (.inr rfl) hT hg (ho a ha) ⟨H, I, hG⟩ (paired_at (by simp [hl, ll]) fun i t x et ex => ?_) (by simp [hl, ll]) hb (fun s t ⟨H, I, q⟩ => ⟨H, I.tok t, q⟩) fun s' u q => ⟨⟨_, _, rfl⟩, _, _, rfl, hQ s' q⟩)))
    have hi := lt_of_get et
    obtain ⟨u, f1, r1⟩ := rs.get (i := i) (x := vs[i]'(by omega)) (List.getElem?_eq_getElem _)
    have ex' : its[i]? = some x := by simpa using ex
    rw [ex'] at f1
    cases f1
    have hr' : Room (k + n + 1) A := hr
    exact ih i _ _ (List.getElem?_eq_getElem _) et (Room.tup hr' _ (.inr rfl)) (guards_under_guard (isGuard_tuple_repr_under _) hg) (ho.cons a _ _) (fun H s I => Env0.tup (hA H s I) _ (.inr rfl)) r1
def rTupR (K : PySem.W.Frag) (C : Addr) (sp : Sp) (n : Nat) : List V → Hp → VK → Prop := fun xs H Q => ∃ (G : Hp → Prop) (a : Addr) (vs : List V) (t : Str), xs = [.ref a] ∧ SqT K H a vs ∧ G H ∧ t.length ≤ sizeLine ∧ (TupInj K H → HSh K C sp G [] (n + 1) (.ref a) t) ∧ ∀ H', G H' → Q (.str t) H'
theorem MethodA.tupRepr {n : Nat} (M : MethodA X.prog X.w X.K X.mg X.base k C "__repr__" D' ps sp) (hr : Room j X.A) (hg : X.A.guards = some []) (hj : k + n + 3 ≤ j) : CallR X (.builtin "repr") (rTupR X.K C sp n) := by
  rintro pins s σ H _ us Q I r ⟨G, a, vs, t, rfl, hq, hG, hz, hs, hQ⟩
  obtain ⟨_, rfl, rfl⟩ := r.one
  have T := Lay.Inv.tupInj I
  replace hs := hs T
  cases hs with
  | own h =>
    obtain ⟨⟨dx, fs, e⟩, _⟩ := h H hG
    exact (T.no _ _ _ _ _ hq e).elim
  | leaf h => cases h
  | @tup _ _ _ vs' ts ha h hl ht =>
    obtain ⟨its, rs, hT, _⟩ := I.tuple (h H hG)
    have ll := rs.length
    obtain ⟨m, dd, sl, eo⟩ := tup_obj hT
    have r1 : Room (k + n + 2) X.A.in1 := (Room.mono hr hj).in1
    refine call_repr_slot (by have := r1.units0; exact this) ⟨_, eo, rfl⟩ F.slot_tuple_repr (wpAny_call (codeAny_call_builtin_own (Code.quiet_builtin _ (by decide +kernel)) F.entry_tuple_repr (F.slot_tuple_repr.check _ _ _ _ _ _ _ _ ⟨_, eo, rfl⟩ (F.args_tuple_repr_1 _)
      (tup_shown (A := X.A.in1) (ts := ts) (b := 0) (R := callEnd _ _) (G := fun s => ∃ H, Inv X pins σ H s ∧ G H) (.inl rfl) hT hg (fun _ m => nomatch m) ⟨H, I, hG⟩ (paired_at (by simp [hl, ll]) fun i t x et ex => ?_) (by simp [hl, ll]) (by omega) (fun s t ⟨H, I, q⟩ => ⟨H, I.tok t, q⟩) fun s' u q => ?_))))
    · have hi := lt_of_get et
      obtain ⟨u, f1, r2⟩ := rs.get (i := i) (x := vs'[i]'(by omega)) (List.getElem?_eq_getElem _)
      have ex' : its[i]? = some x := by simpa using ex
      rw [ex'] at f1
      cases f1
      have r3 : Room (k + n + 1 + 1) X.A.in1 := r1
      exact M.under (ht i _ _ (List.getElem?_eq_getElem _) et) (Room.mono (Room.tup r3 _ (.inl rfl)) (by omega)) (guards_under_guard (isGuard_tuple_repr _) hg) (Off.cons (show Off [] [] from fun _ _ _ m => nomatch m) a _ _) (fun H s I => Env0.tup I.env0.in1 _ (.inl rfl)) r2
    · obtain ⟨H', I', q⟩ := q
      exact ⟨_, _, rfl, .str _, H', I', ⟨_, rfl⟩, hQ H' q⟩
end
/-! ### the same for trees -/
inductive LeafD : D → Str → Prop
  | int {i : Int} (h : i.natAbs.log2 < 1920) : LeafD (.int i) (toString i)
  | str {x : Str} (h : (reprText x).length ≤ sizeLine) : LeafD (.str x) (reprText x)
  | bl {b : Bool} : LeafD (.bl b) (if b then "True" else "False")
  | non : LeafD .non "None"
/-- the text of a tree, own instances within by their class's own repr -/
inductive ShI (C : Addr) (sp : PSp) (z : Z) : Nat → D → Str → Prop
  | own {n : Nat} {d : D} {t : Str} (h1 : ∃ ns ds, d = .ins C ns ds) (h : sp [d] z (fun r z' => r = .str t ∧ z' = z) noP) : ShI C sp z n d t
  | leaf {n : Nat} {d : D} {t : Str} (h : LeafD d t) : ShI C sp z n d t
  | tup {n : Nat} {ds : List D} {ts : List Str} (hl : ts.length = ds.length) (h : ∀ (j : Nat) (d : D) (t : Str), ds[j]? = some d → ts[j]? = some t → ShI C sp z n d t) : ShI C sp z (n + 1) (.tup ds) (tupleText ts)
theorem sizeOf_get {d : D} {ds : List D} {i : Nat} (h : ds[i]? = some d) : sizeOf d < sizeOf (D.tup ds) := by
  have := List.sizeOf_lt_of_mem (List.mem_of_getElem? h)
  rw [D.tup.sizeOf_spec]
  omega
theorem ShI.toH {K : PySem.W.Frag} {M : Addr → Prop} {H : Hp} {σ : L2.St} {ρ : List Sl} {z : Z} {O : Nat → Option Addr} {C : Addr} {sp : PSp} (w : Wd K M H σ ρ z O) (T : TupInj K H) {n : Nat} {d : D} {t : Str} (h : ShI C sp z n d t) :
    ∀ {as : List Addr} {v : V}, firm d → (∀ b ∈ as, ∃ d', firm d' ∧ Rep K (NN M z O) H d' (.ref b) ∧ sizeOf d < sizeOf d') → Rep K (NN M z O) H d v → HSh K C (lift K sp) (fun H' => GoE M H z O H' z O ∧ Wd K M H' σ ρ z O) as n v t := by
  induction h with
  | @own n d t h1 h =>
    intro as v f _ r
    obtain ⟨ns, ds, e⟩ := h1
    have r' := r
    rw [e] at r'
    obtain ⟨a, dx, vs, rfl, q1, q2, q3⟩ := RepP.ins (z := z) (.inl r')
    refine .own fun H' ⟨g, w'⟩ => ?_
    have s1 := Rep.mono g.ext _ _ r
    have s1' := s1
    rw [e] at s1'
    obtain ⟨_, _, _, u1, p1, _⟩ := RepP.ins (z := z) (.inl s1')
    cases u1
    refine ⟨⟨_, _, p1⟩, lift_at0 (R := fun d ρ z' => d = .str t ∧ z' = z) w' (.cons s1 .nil) h fun d2 z' v H2 hd g2 w2 rr => ?_⟩
    obtain ⟨rfl, rfl⟩ := hd
    obtain rfl := RepP.str (z := z') (.inl rr)
    exact ⟨rfl, g.trans g2, w2⟩
  | leaf h =>
    intro as v f _ r
    refine .leaf ?_
    cases h with
    | int h => obtain rfl := RepP.int (z := z) (.inl r); exact .int h
    | str h => obtain rfl := RepP.str (z := z) (.inl r); exact .str h
    | bl => obtain rfl := RepP.bl (z := z) (.inl r); exact .bl
    | non => obtain rfl := RepP.non (z := z) (.inl r); exact .non
  | @tup n ds ts hl h ih =>
    intro as v f ha r
    have r' := r
    rw [Rep] at r'
    obtain ⟨a, vs, rfl, p, q⟩ := r'
    have fs : firms ds := by rw [firm] at f; exact f
    refine .tup (fun m => ?_) (fun H' ⟨g, w'⟩ => (p.mono g.ext).sq) (by rw [hl, Reps.len q]) fun j v t hv et => ?_
    · obtain ⟨d', f', rd, hs⟩ := ha a m
      have := Rep.inj T _ _ _ f f' r rd
      rw [← this] at hs
      exact Nat.lt_irrefl _ hs
    · have hj := lt_of_get hv
      rw [Reps.len q] at hj
      obtain ⟨v', ev, rv⟩ := q.get (List.getElem?_eq_getElem hj)
      rw [hv] at ev; cases ev
      have ed := List.getElem?_eq_getElem hj
      refine ih j _ _ ed et (fs.get _ (List.getElem_mem hj)) (fun b m => ?_) rv
      rcases List.mem_cons.mp m with rfl | m
      · exact ⟨_, f, r, sizeOf_get ed⟩
      · obtain ⟨d', f', rd, hs⟩ := ha b m
        exact ⟨d', f', rd, Nat.lt_trans (sizeOf_get ed) hs⟩
/-- repr(t) of a tuple with own instances within -/
def dReprT (n : Nat) (C : Addr) (sp : PSp) (ta : DX D) : DX D := fun ρ z R RX => ta ρ z (fun d ρ1 z1 => ∃ ds t, d = .tup ds ∧ firm d ∧ t.length ≤ sizeLine ∧ ShI C sp z1 (n + 1) d t ∧ R (.str t) ρ1 z1) RX
theorem ap_dReprT (n : Nat) (C : Addr) (sp : PSp) (ta : DX D) (s0 : Sl) (ρ0 : List Sl) (z : Z) (R : D → List Sl → Z → Prop) (RX : KX) : dReprT n C sp ta (s0 :: ρ0) z R RX = ta (s0 :: ρ0) z (fun d ρ1 z1 => ∃ ds t, d = .tup ds ∧ firm d ∧ t.length ≤ sizeLine ∧ ShI C sp z1 (n + 1) d t ∧ R (.str t) ρ1 z1) RX := rfl
section
variable {X : Cx} {W : WX} {e : Expr} {pos : Pos} {j k : Nat} {C : Addr} {D' : Addr → FuncData → Prop} {ps : List Str} {sp : PSp}
theorem MethodA.dReprT {t : DX D} (n : Nat) (M : MethodA X.prog X.w X.K X.mg X.base k C "__repr__" D' ps (lift X.K sp)) (hr : Room j X.A) (hg : X.A.guards = some []) (hG : Gl X "repr") (hm : X.mg "repr" = none) (he : DE X W e t) (hj : k + n + 3 ≤ j := by decide)
    (hs : starEach [e] X.env = (false, eval e X.env) :: starEach [] X.env := by rfl) : DE X W (.Call (.Name "repr" p) [e] [] pos) (Lay.dReprT n C sp t) := pe_to (pe_callB (M.tupRepr hr hg hj) hG hm (by decide +kernel) (pa_cons he pa_nil hs) (by decide) (by decide) hs (by rfl)) fun σ H Q h => by
  obtain ⟨M, ρ, z, O, R, RX, w, h, x, k⟩ := h
  refine ⟨M, ρ, z, O, _, RX, w, h, x, fun d ρ1 z1 v H1 O1 ⟨ds, t, e, f, hz, hs, hR⟩ g1 w1 r1 => ?_⟩
  have q := r1
  rw [e] at q
  obtain ⟨a, vs, rfl, p, _⟩ := RepP.tup (z := z1) (.inl q)
  exact ⟨fun H' => GoE M H1 z1 O1 H' z1 O1 ∧ Wd X.K M H' σ ρ1 z1 O1, a, vs, t, rfl, p, ⟨GoE.refl, w1⟩, hz, fun T => hs.toH w1 T f (fun _ m => nomatch m) r1, fun H' ⟨g, w'⟩ => k _ ρ1 z1 _ H' O1 hR (g1.trans g) w' .s⟩
end
/-! ### equal, shown: lists of things -/
section
variable {C : Addr} {sp : PSp} {z : Z} {n m : Nat}
end
end Lay

set_option Elab.async false
set_option linter.all false
set_option maxRecDepth 100000
set_option maxHeartbeats 2000000
namespace Lay
open PySem PySem.Spec PyProof.Rows L2
/-! ### bool(o) by the class's own len -/
/-- a class without an own __bool__ -/
def NoBool (K : PySem.W.Frag) (C : Addr) : Prop := PySem.W.findIn K (.ref C) "__bool__" = some none
section
open PySem.W PySem.Calls
variable {prog : Program} {w : World} {A : Around} {E : Value → Shared → Prop} {s : Shared} {K : Frag} {x C f : Addr} {ox : Obj} {od : Option Obj} {Q : Bool → Shared → Prop}
/-- what len answers, as a truth -/
def LenTruth (Q : Bool → Shared → Prop) (v : Value) (s : Shared) : Prop := match v with
  | .int n _ => (0 ≤ n ∧ n < 2 ^ 63) ∧ Q (n != 0) { s with toks := s.toks + 1 }
  | _ => False
theorem truth_by_len (X : K.In s.heap) (I : InstAt s.heap x ox C od) (nb : NoBool K C) (hs : findIn K (.ref C) "__len__" = some (some (.ref f))) (hf : isFn K (.ref f) = true)
    (h : wpAny (model prog w) A.in1 (call (.ref f) [.ref x]) (LenTruth Q) E s) : wpAny (model prog w) A (truthy (.ref x)) Q E s := by
  have len : wpAny (model prog w) A (runValue (.builtin "len" ⟨[.ref x], []⟩)) (fun r s' => ∃ n u, r = .int n u ∧ Q (n != 0) s') E s := by
    refine wpAny_runValue (codeAny_builtin entry_len ?_)
    rw [Around.under_plainId plain_len _]
    unfold Builtin.«len»
    refine wpAny_bind (m := oneArg "len" _) (wpAny_pure (wpAny_bind (m := callSpecial? (.ref x) (Str.ofString "__len__")) (special_fn X I hs (beq_iff_eq.mp hf) (wpAny_mono h (fun r s' hr => ?_) fun _ _ y => y))))
    match r, hr with
    | .int n u, ⟨hn, q⟩ =>
      refine wpAny_bind (wpAny_holding (wpAny_pure (wpAny_bind (wpAny_letGo ?_))))
      show wpAny _ _ (if n < 0 then _ else _) _ _ _
      rw [if_neg (Int.not_lt.mpr hn.1)]
      show wpAny _ _ (if n ≥ 2 ^ 63 then _ else _) _ _ _
      rw [if_neg (Int.not_le.mpr hn.2)]
      exact wpAny_bind (wpAny_mkInt (wpAny_pure ⟨_, _, rfl, q⟩))
  unfold truthy
  refine wpAny_bind (m := callSpecial? (.ref x) (Str.ofString "__bool__")) (wpAny_bind (wpAny_bind (I.type.here ((looks_findIn X nb).here (wpAny_pure ?_)))))
  refine wpAny_bind (wpAny_bind (I.type.here ((looks_findIn X hs).here ?_)))
  rw [show (some (Value.ref f)).isNone = false from rfl]
  refine wpAny_bind (wpAny_mono len (fun r s' hr => ?_) fun _ _ y => y)
  obtain ⟨n, u, rfl, q⟩ := hr
  exact wpAny_pure q
theorem bool_by_len {Q : Value → Shared → Prop} (X : K.In s.heap) (I : InstAt s.heap x ox C od) (nb : NoBool K C) (hs : findIn K (.ref C) "__len__" = some (some (.ref f))) (hf : isFn K (.ref f) = true)
    (h : wpAny (model prog w) A.in1.in1.in1 (call (.ref f) [.ref x]) (LenTruth fun b => Q (.bool b)) E s) : wpAny (model prog w) A (call (.type "bool") [.ref x]) Q E s := by
  refine callType_codes (T := "bool") (Bi := Builtin.«object.__init__») (Q₁ := fun r s₁ => ∃ b, r = .bool b ∧ Q r s₁) PySem.F.called_bool (PySem.F.typeCall_bool_1 _) PySem.F.entry_object_init ?_ ?_
  · refine codeAny_of_tree ?_
    show wpAny _ A.in1.in1 (do checkBuiltinCall "bool.__new__" ⟨[.type "bool", .ref x], []⟩; again (.builtin "bool.__new__" ⟨[.type "bool", .ref x], []⟩)) _ _ s
    refine wpAny_bind (wpAny_of_eq (PySem.F.newCall_bool_1 _) (wpAny_pure ⟨plainId_quiet (by decide +kernel) _, codeAny_builtin PySem.F.entry_bool_new ?_⟩))
    rw [Around.under_plainId (by decide +kernel) _]
    have t : wpAny (model prog w) A.in1.in1 (truthy (.ref x)) (fun b s' => Q (.bool b) s') E s := truth_by_len X I nb hs hf h
    have f1 := F.conv_sub_bool
    unfold Builtin.«bool.__new__»
    repeat (any_goals (first | assumption | (with_reducible refine wpAny_mono t (fun b s' q => ?_) fun _ _ y => y) | wp_step))
    exact ⟨b, rfl, q⟩
  · rintro obj s₁ ⟨b, rfl, hq⟩
    exact ⟨PySem.typeIs_bool _ _, PySem.F.args_object_init_2 _ _, object_init_meets PySem.F.called_bool.init.lookup PySem.F.called_bool.made (by decide) prog w A.in1 _ s₁ ⟨PySem.typeIs_bool _ _, rfl, hq⟩⟩
end
section
variable {X : Cx} {j k : Nat} {C : Addr} {D : Addr → FuncData → Prop} {ps : List Str} {sp : Sp}
theorem Method.bool (M : Method X.prog X.w X.K X.mg X.base CX0 k C "__len__" D ps sp) (nb : NoBool X.K C) (hr : Room j X.A) (hg : X.A.guards = some []) (hj : k + 3 ≤ j := by decide) : CallR X (.type "bool") fun xs H Q => ∃ a dx fs, xs = [.ref a] ∧ H a = some (.ins C dx fs) ∧
    sp [.ref a] H (fun v H' => ∃ n : Int, v = .int n ∧ 0 ≤ n ∧ n < 2 ^ 63 ∧ Q (.bl (n != 0)) H') E0 := by
  obtain ⟨f, fd, c, hm, F, b, G⟩ := M.ex
  rintro pins s σ H _ us Q I r ⟨a, dx, fs, rfl, ea, z⟩
  obtain ⟨_, rfl, rfl⟩ := r.one
  obtain ⟨mA, O, _⟩ := ins_get I.hok ea
  obtain ⟨od, J, _⟩ := O.look
  have r3 : Room k X.A.in1.in1.in1 := (show Room (k + 1) X.A.in1.in1 from (show Room (k + 1 + 1) X.A.in1 from (Room.mono hr hj).in1).in1).in1
  refine bool_by_len I.kIn J nb hm.at_ hm.fn (wpAny_mono (gcallA (vs := [V.ref a]) G r3 hg I.env0.in1.in1.in1 b I (.cons rfl .nil) z) (fun w s' hw => ?_) fun _ _ e => e)
  obtain ⟨v, H', I', rv, n, rfl, h0, h1, q⟩ := hw
  obtain ⟨t, rfl⟩ := (show ∃ t, w = Value.int n t from rv)
  exact ⟨⟨h0, h1⟩, .bl _, H', I'.tok _, rfl, q⟩
end
def dBoolO (C : Addr) (sp : PSp) (t : DX D) : DX D := fun ρ z R RX => t ρ z (fun d ρ1 z1 => (∃ ns ds, d = .ins C ns ds) ∧ sp [d] z1 (fun r z2 => match r with | .int n => (0 ≤ n ∧ n < 2 ^ 63) ∧ R (.bl (n != 0)) ρ1 z2 | _ => False) noP) RX
theorem ap_dBoolO (C : Addr) (sp : PSp) (t : DX D) (s0 : Sl) (ρ0 : List Sl) (z : Z) (R : D → List Sl → Z → Prop) (RX : KX) : dBoolO C sp t (s0 :: ρ0) z R RX = t (s0 :: ρ0) z (fun d ρ1 z1 => (∃ ns ds, d = .ins C ns ds) ∧ sp [d] z1 (fun r z2 => match r with | .int n => (0 ≤ n ∧ n < 2 ^ 63) ∧ R (.bl (n != 0)) ρ1 z2 | _ => False) noP) RX := rfl
/-- a == b, where a is an instance, or b is and a of a built-in kind -/
def dEqG (K : PySem.W.Frag) (C : Addr) (sp : PSp) (ta tb : DX D) : DX D := fun ρ z R RX => ta ρ z (fun d1 ρ1 z1 => tb ρ1 z1 (fun d2 ρ2 z2 =>
  ((∃ ns ds, d1 = .ins C ns ds) ∧ (∃ t, tyD K d2 t ∧ PySem.W.notFirst K C t = true) ∧ sp [d1, d2] z2 (fun r z3 => match r with | .bl b => R (.bl b) ρ2 z3 | _ => False) noP) ∨
  ((∃ ns ds, d2 = .ins C ns ds) ∧ plainD d1 ∧ sp [d2, d1] z2 (fun r z3 => match r with | .bl b => R (.bl b) ρ2 z3 | _ => False) noP)) RX) RX
theorem ap_dEqG (K : PySem.W.Frag) (C : Addr) (sp : PSp) (ta tb : DX D) (s0 : Sl) (ρ0 : List Sl) (z : Z) (R : D → List Sl → Z → Prop) (RX : KX) : dEqG K C sp ta tb (s0 :: ρ0) z R RX = (ta (s0 :: ρ0) z (fun d1 ρ1 z1 => tb ρ1 z1 (fun d2 ρ2 z2 =>
  ((∃ ns ds, d1 = .ins C ns ds) ∧ (∃ t, tyD K d2 t ∧ PySem.W.notFirst K C t = true) ∧ sp [d1, d2] z2 (fun r z3 => match r with | .bl b => R (.bl b) ρ2 z3 | _ => False) noP) ∨
  ((∃ ns ds, d2 = .ins C ns ds) ∧ plainD d1 ∧ sp [d2, d1] z2 (fun r z3 => match r with | .bl b => R (.bl b) ρ2 z3 | _ => False) noP)) RX) RX) := rfl
section
variable {X : Cx} {W : WX} {a b e : Expr} {pos : Pos} {j k : Nat} {C : Addr} {D' : Addr → FuncData → Prop} {ps : List Str} {sp : PSp}
theorem OpR.or {f : Value → Value → Sem Value} {r s : R2} (h1 : OpR X f r) (h2 : OpR X f s) : OpR X f fun x y H Q => r x y H Q ∨ s x y H Q := by
  intro pins st σ H x y v u Q I rx ry h
  rcases h with h | h
  · exact h1 pins st σ H x y v u Q I rx ry h
  · exact h2 pins st σ H x y v u Q I rx ry h
theorem plain_ty {K : PySem.W.Frag} {z : Z} {H : Hp} {N : Addr → Prop} {d : D} {v : V} (hp : plainD d) (r : Rep K N H d v) : plainV v ∨ (∃ t ws, v = .ref t ∧ SqT K H t ws) ∨ ∃ t ws, v = .ref t ∧ SqL K H t ws := by
  cases d with
  | str y => obtain rfl := RepP.str (z := z) (.inl r); exact .inl trivial
  | int y => obtain rfl := RepP.int (z := z) (.inl r); exact .inl trivial
  | bl y => obtain rfl := RepP.bl (z := z) (.inl r); exact .inl trivial
  | non => obtain rfl := RepP.non (z := z) (.inl r); exact .inl trivial
  | tup y => obtain ⟨t, ws, rfl, q, _⟩ := RepP.tup (z := z) (.inl r); exact .inr (.inl ⟨t, ws, rfl, q⟩)
  | lst y => obtain ⟨t, ws, rfl, q, _⟩ := RepP.lst (z := z) (.inl r); exact .inr (.inr ⟨t, ws, rfl, SqL.of q⟩)
  | _ => exact hp.elim
theorem UG.eqG {K : PySem.W.Frag} {ta tb : DX D} {σ : L2.St} {H : Hp} {Q : VK} (h : UG K W (relE K) (dEqG K C sp ta tb) σ H Q) :
    tOp (fun x y H Q => (∃ a dx fs t, x = .ref a ∧ H a = some (.ins C dx fs) ∧ TyX K H y t ∧ PySem.W.notFirst K C t = true ∧ lift K sp [x, y] H (fun v H' => ∃ b : Bool, v = .bl b ∧ Q (.bl (id b)) H') E0) ∨ rReqO K C (lift K sp) x y H Q) (UG K W (relE K) ta) (UG K W (relE K) tb) σ H Q := by
  obtain ⟨M, ρ, z, O, R, RX, w, h, x, k⟩ := h
  refine ⟨M, ρ, z, O, _, RX, w, h, x, fun d1 ρ1 z1 v1 H1 O1 h1 g1 w1 r1 => ⟨M, ρ1, z1, O1, _, RX, w1, h1, x.after g1.toGo, fun d2 ρ2 z2 v2 H2 O2 hh g2 w2 r2 => ?_⟩⟩
  have s1 := Rep.mono g2.ext _ _ r1
  have fin : ∀ {ds vs}, Reps K (NN M z2 O2) H2 ds vs → sp ds z2 (fun r z3 => match r with | .bl b => R (.bl b) ρ2 z3 | _ => False) noP → lift K sp vs H2 (fun v H' => ∃ b : Bool, v = .bl b ∧ Q (.bl b) H') E0 := fun {ds vs} rr h2 =>
    lift_at0 (R := fun d ρ z => match d with | .bl b => R (.bl b) ρ z | _ => False) w2 rr h2 fun d z' v H' hd g w r => by
      cases d with
      | bl y => obtain rfl := RepP.bl (z := z') (.inl r); exact ⟨y, rfl, k _ ρ2 z' _ H' O2 hd (g1.trans (g2.trans g)) w .b⟩
      | _ => exact hd.elim
  rcases hh with ⟨⟨ns, ds, ed⟩, ⟨t, ht, hn⟩, h2⟩ | ⟨⟨ns, ds, ed⟩, hp, h2⟩
  · have q := s1
    rw [ed] at q
    obtain ⟨a, dx, vs, rfl, q1, _⟩ := RepP.ins (z := z2) (.inl q)
    exact .inl ⟨a, dx, _, t, rfl, q1, tyX_of (z := z2) (.inl r2) ht, hn, fin (.cons s1 (.cons r2 .nil)) h2⟩
  · have q := r2
    rw [ed] at q
    obtain ⟨a, dx, vs, rfl, q1, _⟩ := RepP.ins (z := z2) (.inl q)
    exact .inr ⟨a, dx, _, rfl, plain_ty (z := z2) hp s1, q1, fin (.cons r2 (.cons s1 .nil)) h2⟩
theorem Method.dEqG {K : PySem.W.Frag} {ta tb : DX D} (hK : X.K = K) (M : Method X.prog X.w X.K X.mg X.base CX0 k C "__eq__" D' ps (lift X.K sp)) (Rf : Refl X.K C) (hr : Room j X.A) (hg : X.A.guards = some []) (ha : DE X W a ta) (hb : DE X W b tb) (hj : k ≤ j := by decide) : DE X W (.Compare a [.Eq] [b] pos) (Lay.dEqG K C sp ta tb) := by
  subst hK
  exact pe_to (pe_cmpR (OpR.or (Method.eq (o := .Eq) M (fun _ _ => rfl) hr hg hj) (Method.req M Rf hr hg hj)) ha hb (nomark _)) fun _ _ _ h => h.eqG
end
end Lay

set_option Elab.async false
set_option linter.all false
set_option maxRecDepth 100000
set_option maxHeartbeats 2000000
namespace Lay
open PySem PySem.Spec PyProof.Rows L2
/-! ### i << j -/
def shlD : Op2
  | .int i, .int j, k => CPow i j ∧ k (.int (i * 2 ^ j.toNat))
  | _, _, _ => False
theorem e_shlD1 : ∀ i j k, shlD (D.int i) (D.int j) k = (CPow i j ∧ k (.int (i * 2 ^ j.toNat))) := by intros; rfl
/-! ### makers with defaults, all by names -/
section
variable {X : Cx} {W : WX} {pos p : Pos} {CX : CXT} {k j : Nat} {ks ps : List Str} {x : Str} {C : Addr} {D' : Addr → FuncData → Prop} {isp : ISp} {kws : List Keyword} {gV : List V → List V → List V} {gD : List D → List D → List D}
theorem Maker.dkw0EG {tk : DX (List D)} {E : L2.St → XK} (M : Maker X.prog X.w X.K X.mg X.base CX k x C D' ps (liftI X.K C isp)) (kd : KwM 0 ks.length gV gD) (hb : ∀ (f : Addr) (fd : FuncData), D' f fd → ∃ g, KwB X.K fd ps 1 ks g gV) (hG : Gl X x) (hr : Room j X.A) (hg : X.A.guards = some [])
    (hx : ∀ σ, PassesAt CX X σ (E σ)) (hkw : DKw X W kws tk) (hj : k + 1 ≤ j := by decide) (hall : (backToKw pos (keywordEach kws X.env)).all (·.1.isSome) = true := by rfl) (hks : (backToKw pos (keywordEach kws X.env)).filterMap (·.1) = ks := by rfl)
    (hdb : (x == ("__debug__" : Str)) = false := by decide) (hpl : ((backTo pos (starEach [] X.env)).any (·.1) || (backToKw pos (keywordEach kws X.env)).any (·.1.isNone)) = false := by rfl) : DE X W (.Call (.Name x p) [] kws pos) (dMakeKw0 C 0 ks.length gD isp dNil tk) := by
  obtain ⟨f, fd, h1, h2, h3, h4, h5⟩ := M.ex
  obtain ⟨g, q⟩ := hb f fd h3
  exact Maker.dkw0E (D' := fun f' fd' => f' = f ∧ fd' = fd) (g := g) ⟨⟨f, fd, h1, h2, ⟨rfl, rfl⟩, h4, h5⟩⟩ kd (fun _ _ z => by obtain ⟨rfl, rfl⟩ := z; exact q) hG hr hg hx hkw hj hall hks hdb hpl
end
/-! ### an __init__ with defaults -/
section
variable {P : Program} {w : World} {K : PySem.W.Frag} {mg : Str → Option Value} {base : Heap} {x qual : Str} {st : Stmt} {f : Addr} {fd : FuncData} {N ps : List Str} {k : Nat} {dvs : List V} {C : Addr} {isp : ISp}
theorem ibodyXD (F : FunD K x qual (defArgs st) (defBody st) (defScope st) dvs [] f fd) (S : FnScope N ps (defScope st)) (ln : ∀ ds z R RX, isp ds z R RX → ds.length + 1 = ps.length)
    (hb : ∀ (cdv : Value) (A : Around) (outer : List Env) (s : Shared) (H : Hp) (E : XK), Room k (A.deeper (envOfC qual (defScope st) s.heap.objs.size f cdv)) → (A.deeper (envOfC qual (defScope st) s.heap.objs.size f cdv)).guards = some [] →
      ∃ t, DSs (cxOf (L2.CX P w) P w K mg base N qual (defScope st) f cdv A outer s H E) (fun cls d _ H => E cls d H) (defBody st) t ∧
        ∀ ds z R RX (x : Addr), isp ds z R RX → t { nx := fun ρ z' => ∃ ns es, ρ[0]? = some (.obj x C ns es) ∧ R ns es z', rt := fun _ _ => False, ex := fun Cx ns es ρ z' => (∃ ns' es', ρ[0]? = some (.obj x C ns' es')) ∧ RX Cx ns es z' } (startI N x C ds) z) :
    FnG P w K mg base (L2.CX P w) (k + 1) f fd ps (liftI K C isp) := by
  refine gbodyD2 F S (fun vs H Q E h => ?_) fun cdv A outer s H vs Q E hr hg h => ?_
  · unfold liftI at h
    obtain ⟨x, dx, us, M, ds, z, R, RX, rfl, _, _, _, _, _, _, r, h, _⟩ := h
    rw [List.length_cons, ← r.length]; exact ln _ _ _ _ h
  · obtain ⟨t, ht, hh⟩ := hb cdv A outer s H E hr hg
    refine ⟨_, ht, ?_⟩
    unfold liftI at h
    obtain ⟨x, dx, us, M, ds, z, R, RX, rfl, hx, al, nm, np, pot, pm, r, h, k1, k2⟩ := h
    refine ⟨M, startI N x C ds, z, oneO x, _, Wd.begI hx al nm np pot pm r, hh ds z R RX x h, ?_⟩
    refine ⟨fun ρ' z' σ' H' O' ⟨ns, es, e, h⟩ g w => ?_, fun _ _ _ _ _ h => h.elim, fun _ _ _ _ _ h => h.elim, fun _ _ _ _ _ _ _ h => h.elim, fun Cx ns es ρ' z' od H' O' σ' ⟨⟨ns', es', e⟩, h⟩ g w ex => ?_⟩
    · obtain ⟨q1, q2, dx', vs, q3, q4, q5⟩ := obj_at w e
      exact k1 ns es z' vs dx' H' h (g.finI w q1 q2) q3 q4 (Reps.mono (nnI q1) _ _ q5)
    · obtain ⟨q1, q2, _⟩ := obj_at w e
      exact k2 Cx ns es z' od H' h (g.finI w q1 q2) (ex.mono (nnI q1))
end
end Lay

set_option Elab.async false
set_option linter.all false
set_option maxRecDepth 100000
set_option maxHeartbeats 2000000
namespace Lay
open PySem PySem.Spec PyProof.Rows L2 SeqAt
/-! ### xs != [], whatever lies within the list -/
def eqE (f : Bool → Bool) : Op2
  | .lst xs, .lst [], k => k (.bl (f xs.isEmpty))
  | _, _, _ => False
theorem e_eqE (f : Bool → Bool) (xs : List D) (k : D → Prop) : eqE f (.lst xs) (.lst []) k = k (.bl (f xs.isEmpty)) := rfl
end Lay

set_option Elab.async false
set_option linter.all false
set_option maxRecDepth 100000
set_option maxHeartbeats 2000000
namespace Lay
open PySem PySem.Spec PyProof.Rows L2
/-! ### x, y, u = [..], e, e: the first a list of one's own -/
section
variable {X : Cx} {W : WX} {a b c : Expr} {pos : Pos}
def dPar3O (i j l : Nat) (t1 t2 : DX (List D)) : DTS := fun R ρ z => t1 ρ z (fun xs ρ1 z1 => t2 ρ1 z1 (fun ds ρ2 z2 => match ds with | [y, u] => i < ρ2.length ∧ R.nx (((ρ2.set i (.own xs)).set j (.val y)).set l (.val u)) z2 | _ => False) R.ex) R.ex
theorem ap_dPar3O (i j l : Nat) (t1 t2 : DX (List D)) (R : DEnds) (s0 : Sl) (ρ0 : List Sl) (z : Z) : dPar3O i j l t1 t2 R (s0 :: ρ0) z = t1 (s0 :: ρ0) z (fun xs ρ1 z1 => t2 ρ1 z1 (fun ds ρ2 z2 => match ds with | [y, u] => i < ρ2.length ∧ R.nx (((ρ2.set i (.own xs)).set j (.val y)).set l (.val u)) z2 | _ => False) R.ex) R.ex := rfl
end
end Lay

set_option Elab.async false
set_option linter.all false
set_option maxRecDepth 100000
set_option maxHeartbeats 2000000
namespace Lay
open PySem PySem.Spec PyProof.Rows L2
/-! ### max(t), min(t) of a tuple of whole numbers -/
section
variable {prog : Program} {w : World} {A : Around} {E : Value → Shared → Prop} {s : Shared} {l : Addr} {its : List Value} {ns : List Int} {Q : Value → Shared → Prop}
end
section
variable {X : Cx} {W : WX} {e a b c : Expr} {pos : Pos}
def bestT (r : Int → Int → Prop) : FnD
  | [.tup ds], k => ∃ ns : List Int, ds = ns.map D.int ∧ 0 < ns.length ∧ ∀ m, m ∈ ns → (∀ y, y ∈ ns → r y m) → k (.int m)
  | _, _ => False
theorem ap_bestT (r : Int → Int → Prop) (ds : List D) (k : D → Prop) : bestT r [.tup ds] k = ∃ ns : List Int, ds = ns.map D.int ∧ 0 < ns.length ∧ ∀ m, m ∈ ns → (∀ y, y ∈ ns → r y m) → k (.int m) := rfl
/-! ### x, y, u = [], [], []: three lists of one's own -/
def dPar3E (i j l : Nat) : DTS := fun R ρ z => i < ρ.length ∧ j < ρ.length ∧ l < ρ.length ∧ R.nx (((ρ.set i (.own [])).set j (.own [])).set l (.own [])) z
theorem ap_dPar3E (i j l : Nat) (R : DEnds) (s0 : Sl) (ρ0 : List Sl) (z : Z) : dPar3E i j l R (s0 :: ρ0) z = (i < (s0 :: ρ0).length ∧ j < (s0 :: ρ0).length ∧ l < (s0 :: ρ0).length ∧ R.nx ((((s0 :: ρ0).set i (.own [])).set j (.own [])).set l (.own [])) z) := rfl
theorem e_kin (a : Addr) (tab : List (Str × Option D)) (f : Bool → Bool) (d : Addr) (z : Str) (k : D → Prop) : kinD d tab f (.str z) (.adr a) k = (a = d ∧ ∃ o, (z, o) ∈ tab ∧ k (.bl (f o.isSome))) := by
  unfold kinD
  refine propext ⟨fun ⟨z', o, h1, h2, m, h⟩ => ?_, fun ⟨e, o, m, h⟩ => ⟨z, o, rfl, by rw [e], m, h⟩⟩
  cases h1; cases h2
  exact ⟨rfl, o, m, h⟩
theorem e_kix (a : Addr) (tab : List (Str × Option D)) (d : Addr) (z : Str) (k : D → Prop) : kixD d tab (.adr a) (.str z) k = (a = d ∧ ∃ x, (z, some x) ∈ tab ∧ k x) := by
  unfold kixD
  refine propext ⟨fun ⟨z', o, h1, h2, m, h⟩ => ?_, fun ⟨e, o, m, h⟩ => ⟨z, o, by rw [e], rfl, m, h⟩⟩
  cases h1; cases h2
  exact ⟨rfl, o, m, h⟩
end
end Lay

set_option Elab.async false
set_option linter.all false
set_option maxRecDepth 100000
set_option maxHeartbeats 2000000
namespace Lay
open PySem PySem.Spec PyProof.Rows L2
/-! ### text.index(text), where it is there -/
section
variable {X : Cx}
def indexD : FnS
  | z, [.str y], k => ∃ (i : Nat) (rest : List Nat), Builtin.Str.occurrences z y 0 z.length 1 = i :: rest ∧ k (.int (i : Nat))
  | _, _, _ => False
theorem e_index (z y : Str) (k : D → Prop) : indexD z [.str y] k = ∃ (i : Nat) (rest : List Nat), Builtin.Str.occurrences z y 0 z.length 1 = i :: rest ∧ k (.int (i : Nat)) := rfl
end
end Lay

set_option Elab.async false
set_option linter.all false
set_option maxRecDepth 100000
set_option maxHeartbeats 2000000
namespace Lay
open PySem PySem.Spec PyProof.Rows L2
/-! ### a dict of one's own: made with two entries, given two more, then changed no more -/
section
variable {X : Cx} {W : WX} {e o f e1 e2 : Expr} {pos : Pos}
def gPut (i : Nat) (k : Str) : TG := fun v σ H Q => ∃ a kvs, σ[i]? = some (some (.ref a)) ∧ H a = some (.dK kvs) ∧ kvs.length < sizeLine ∧ Q σ (upd H a (.dK (putK kvs (.inr k) v)))
theorem putK_new {kvs : List (Key × V)} {k : Key} {v : V} (h : ∀ a b, (a, b) ∈ kvs → a ≠ k) : putK kvs k v = kvs ++ [(k, v)] := by
  unfold putK
  rw [if_neg]
  intro q
  obtain ⟨⟨a, b⟩, m, e⟩ := List.any_eq_true.mp q
  exact h a b m (of_decide_eq_true e)
def dPut2 (i : Nat) (k1 k2 : Str) (t : DX D) : DTS := fun R ρ z => t ρ z (fun d ρ' z' => ∃ a ks ds d1 d2, ρ'[i]? = some (.dicA a ks ds) ∧ d = .tup [d1, d2] ∧ ks.length ≤ 8 ∧ (∀ k, k ∈ ks → k ≠ .inr k1 ∧ k ≠ .inr k2) ∧ k1 ≠ k2 ∧ R.nx (ρ'.set i (.val (.dic (ks ++ [.inr k1, .inr k2]) (ds ++ [d1, d2])))) z') R.ex
theorem ap_dPut2 (i : Nat) (k1 k2 : Str) (t : DX D) (R : DEnds) (s0 : Sl) (ρ0 : List Sl) (z : Z) : dPut2 i k1 k2 t R (s0 :: ρ0) z = t (s0 :: ρ0) z (fun d ρ' z' => ∃ a ks ds d1 d2, ρ'[i]? = some (.dicA a ks ds) ∧ d = .tup [d1, d2] ∧ ks.length ≤ 8 ∧ (∀ k, k ∈ ks → k ≠ .inr k1 ∧ k ≠ .inr k2) ∧ k1 ≠ k2 ∧ R.nx (ρ'.set i (.val (.dic (ks ++ [.inr k1, .inr k2]) (ds ++ [d1, d2])))) z') R.ex := rfl
/-- an own thing of slot i, written a last time and given -/
theorem Wd.last {K : PySem.W.Frag} {M : Addr → Prop} {H : Hp} {σ : L2.St} {ρ : List Sl} {z : Z} {O : Nat → Option Addr} (w : Wd K M H σ ρ z O) {i : Nat} {a : Addr} (o : HO) (s : Sl) (ha : O i = some a)
    (hs : (¬ NN M z (Lay.off O i) a) → Ext (NN M z O) H (NN M z (Lay.off O i)) (upd H a o) → SlotOk K (NN M z (Lay.off O i)) (upd H a o) (σ[i]?.join) s none) : Wd K M (upd H a o) σ (ρ.set i s) z (Lay.off O i) ∧ Go M H z O (upd H a o) z (Lay.off O i) := by
  obtain ⟨m1, m2, m3, m4⟩ := w.ow i a ha
  have onn : NN M z O a := .inr (.inr ⟨i, ha⟩)
  have na : ¬ NN M z (Lay.off O i) a := by
    rintro (q | q | ⟨j, q⟩)
    · exact m1 q
    · exact m2 q
    · unfold Lay.off at q
      split at q
      · cases q
      · exact absurd (m4 j q) ‹_›
  have ext : Ext (NN M z O) H (NN M z (Lay.off O i)) (upd H a o) := ⟨fun b u h n => by rw [upd_ne (fun q => n (by rw [q]; exact onn))]; exact h, fun b q => .inl q.off⟩
  have al : ∀ b, H b ≠ none → upd H a o b ≠ none := fun b h => by
    by_cases q : b = a
    · rw [q, upd_same]; exact Option.some_ne_none _
    · rw [upd_ne q]; exact h
  refine ⟨⟨by rw [List.length_set]; exact w.len, fun b h => al b (w.al b h), w.pot.to ext fun b u h q => by rw [upd_ne (fun e => m2 (by rw [← e]; exact h))]; exact q, w.pm, fun j b h => ?_, fun j s' h => ?_, fun j h => ?_⟩,
    ⟨ext.st, fun b u m h => by rw [upd_ne (fun e => m1 (by rw [← e]; exact m))]; exact h, ext.nw, fun b h => .inl h, al⟩⟩
  · have h' : O j = some b := by
      unfold Lay.off at h
      split at h
      · cases h
      · exact h
    obtain ⟨x1, x2, x3, x4⟩ := w.ow j b h'
    refine ⟨x1, x2, al b x3, fun l q => x4 l ?_⟩
    unfold Lay.off at q
    split at q
    · cases q
    · exact q
  · by_cases hj : j = i
    · subst hj
      have hi : j < ρ.length := by
        rcases Nat.lt_or_ge j ρ.length with q | q
        · exact q
        · rw [List.getElem?_eq_none (by rw [List.length_set]; exact q)] at h; cases h
      rw [List.getElem?_set_self hi] at h
      cases h
      have q : Lay.off O j j = none := by unfold Lay.off; rw [if_pos rfl]
      rw [q]
      exact hs na ext
    · rw [List.getElem?_set_ne (Ne.symm hj)] at h
      have q : Lay.off O i j = O j := by unfold Lay.off; rw [if_neg hj]
      rw [q]
      exact (w.sl j s' h).mono ext fun b u hb hu => by rw [upd_ne (fun e => hj (m4 j (by rw [← e]; exact hb)))]; exact hu
  · unfold Lay.off
    split
    · rfl
    · rename_i hj
      rw [List.getElem?_set_ne (Ne.symm hj)] at h
      exact w.out j h
def dDic2 (i : Nat) (k1 k2 : Str) (t1 t2 : DX D) : DTS := fun R ρ z => t1 ρ z (fun d1 ρ1 z1 => t2 ρ1 z1 (fun d2 ρ2 z2 => i < ρ2.length ∧ ∀ a, R.nx (ρ2.set i (.dicA a [.inr k1, .inr k2] [d1, d2])) z2) noX) noX
theorem ap_dDic2 (i : Nat) (k1 k2 : Str) (t1 t2 : DX D) (R : DEnds) (s0 : Sl) (ρ0 : List Sl) (z : Z) : dDic2 i k1 k2 t1 t2 R (s0 :: ρ0) z = t1 (s0 :: ρ0) z (fun d1 ρ1 z1 => t2 ρ1 z1 (fun d2 ρ2 z2 => i < ρ2.length ∧ ∀ a, R.nx (ρ2.set i (.dicA a [.inr k1, .inr k2] [d1, d2])) z2) noX) noX := rfl
/-! ### a dict that is changed no more: d.get(k, other), for k in d -/
def getD2 (t u v : DX D) : DX D := fun ρ z R RX => t ρ z (fun d ρ1 z1 => ∃ ks ds, d = .dic ks ds ∧ u ρ1 z1 (fun y ρ2 z2 => ∃ s, y = .str s ∧ v ρ2 z2 (fun o ρ3 z3 => R ((lookD ks ds (.inr s)).getD o) ρ3 z3) RX) RX) RX
theorem ap_getD2 (t u v : DX D) (s0 : Sl) (ρ0 : List Sl) (z : Z) (R : D → List Sl → Z → Prop) (RX : KX) : getD2 t u v (s0 :: ρ0) z R RX = t (s0 :: ρ0) z (fun d ρ1 z1 => ∃ ks ds, d = .dic ks ds ∧ u ρ1 z1 (fun y ρ2 z2 => ∃ s, y = .str s ∧ v ρ2 z2 (fun o ρ3 z3 => R ((lookD ks ds (.inr s)).getD o) ρ3 z3) RX) RX) RX := rfl
def keyD : Key → D
  | .inl i => .int i
  | .inr s => .str s
def dItK (t : DX D) : DX (List D) := fun ρ z R RX => t ρ z (fun d ρ' z' => ∃ ks ds, d = .dic ks ds ∧ R (ks.map keyD) ρ' z') RX
theorem ap_dItK (t : DX D) (s0 : Sl) (ρ0 : List Sl) (z : Z) (R : List D → List Sl → Z → Prop) (RX : KX) : dItK t (s0 :: ρ0) z R RX = t (s0 :: ρ0) z (fun d ρ' z' => ∃ ks ds, d = .dic ks ds ∧ R (ks.map keyD) ρ' z') RX := rfl
end
end Lay

set_option Elab.async false
set_option linter.all false
set_option maxRecDepth 100000
set_option maxHeartbeats 2000000
namespace Lay
open PySem PySem.Spec PyProof.Rows L2
/-! ### x = ([], []): two lists of one's own within a tuple; their slots are j and l, of names that stand nowhere in the text -/
section
variable {K : PySem.W.Frag} {M : Addr → Prop} {H H' : Hp} {σ : L2.St} {ρ : List Sl} {z : Z} {O : Nat → Option Addr}
end
section
variable {X : Cx} {W : WX} {e o : Expr} {pos : Pos}
def dTwoE (i j l : Nat) : DTS := fun R ρ z => j < ρ.length ∧ l < ρ.length ∧ j ≠ l ∧ ∀ a b, R.nx (((ρ.set j (.ownA a [])).set l (.ownA b [])).set i (.val (.tup [.adr a, .adr b]))) z
theorem ap_dTwoE (i j l : Nat) (R : DEnds) (s0 : Sl) (ρ0 : List Sl) (z : Z) : dTwoE i j l R (s0 :: ρ0) z = (j < (s0 :: ρ0).length ∧ l < (s0 :: ρ0).length ∧ j ≠ l ∧ ∀ a b, R.nx ((((s0 :: ρ0).set j (.ownA a [])).set l (.ownA b [])).set i (.val (.tup [.adr a, .adr b]))) z) := rfl
/-- o.append(e), o such a list -/
def dAppA (j : Nat) (to t : DX D) : DTS := fun R ρ z => to ρ z (fun r ρ1 z1 => ∃ a ds0, r = .adr a ∧ ρ1[j]? = some (.ownA a ds0) ∧ t ρ1 z1 (fun d ρ' z' => ∃ ds, ρ'[j]? = some (.ownA a ds) ∧ ds.length < sizeLine ∧ R.nx (ρ'.set j (.ownA a (ds ++ [d]))) z') R.ex) R.ex
theorem ap_dAppA (j : Nat) (to t : DX D) (R : DEnds) (s0 : Sl) (ρ0 : List Sl) (z : Z) : dAppA j to t R (s0 :: ρ0) z = to (s0 :: ρ0) z (fun r ρ1 z1 => ∃ a ds0, r = .adr a ∧ ρ1[j]? = some (.ownA a ds0) ∧ t ρ1 z1 (fun d ρ' z' => ∃ ds, ρ'[j]? = some (.ownA a ds) ∧ ds.length < sizeLine ∧ R.nx (ρ'.set j (.ownA a (ds ++ [d]))) z') R.ex) R.ex := rfl
/-- the tuple with both lists, given -/
def dTwo (i j l : Nat) : DX D := fun ρ z R _ => ∃ a b xs ys, ρ[i]? = some (.val (.tup [.adr a, .adr b])) ∧ ρ[j]? = some (.ownA a xs) ∧ ρ[l]? = some (.ownA b ys) ∧ j ≠ l ∧ R (.tup [.lst xs, .lst ys]) ((ρ.set j .any).set l .any) z
theorem ap_dTwo (i j l : Nat) (s0 : Sl) (ρ0 : List Sl) (z : Z) (R : D → List Sl → Z → Prop) (RX : KX) : dTwo i j l (s0 :: ρ0) z R RX = ∃ a b xs ys, (s0 :: ρ0)[i]? = some (.val (.tup [.adr a, .adr b])) ∧ (s0 :: ρ0)[j]? = some (.ownA a xs) ∧ (s0 :: ρ0)[l]? = some (.ownA b ys) ∧ j ≠ l ∧ R (.tup [.lst xs, .lst ys]) (((s0 :: ρ0).set j .any).set l .any) z := rfl
end
end Lay

set_option Elab.async false
set_option linter.all false
set_option maxRecDepth 100000
set_option maxHeartbeats 2000000
namespace Lay
open PySem PySem.Spec PyProof.Rows L2
open PySem.Sem (wp)
/-! ### list(zip(a, b)): while each pair stays -/
section
variable {prog : Program} {w : World} {A : Around} {E : Value → Shared → Prop} {s : Shared} {z TI TO i1 i2 T : Addr} {fp1 fp2 : List Addr} {n1 n2 i : Nat} {P1 P2 : Nat → Value → Prop} {St1 St2 : Nat → Heap → Prop} {f : Bool} {oT : Obj}
end
/-- what gives out pairs one behind the other while a list grows at S -/
structure NextW (prog : Program) (w : World) (A : Around) (I S : Addr) (wr : List Addr) (n : Nat) (P : Nat → Value → Value → Prop) (St : Nat → Heap → Prop) : Prop where
  off : S ∉ wr
  frame : ∀ i h h', St i h → (∀ b, b ≠ S → ∀ o, h.get? b = some o → h'.get? b = some o) → St i h'
  item : ∀ i (s : Shared) (Q : Option Value → Shared → Prop) (E : Value → Shared → Prop), i < n → St i s.heap → S < s.heap.objs.size →
    (∀ x y h' tk, P i x y → IsTupOf2 h' s.heap.objs.size x y → St (i + 1) h' → h'.objs.size = s.heap.objs.size + 1 → (∀ b o, b ∉ wr → s.heap.get? b = some o → h'.get? b = some o) → Q (some (.ref s.heap.objs.size)) { s with heap := h', toks := tk }) →
    wpAny (model prog w) A (pyNext (.ref I)) Q E s
  done : ∀ (s : Shared) (Q : Option Value → Shared → Prop) (E : Value → Shared → Prop), St n s.heap →
    (∀ h' tk, (∀ b o, b ∉ wr → s.heap.get? b = some o → h'.get? b = some o) → Q none { s with heap := h', toks := tk }) → wpAny (model prog w) A (pyNext (.ref I)) Q E s
def Prs (base : Nat) (P : Nat → Value → Value → Prop) (h : Heap) (acc : Array Value) (i : Nat) : Prop := acc.size = i ∧ ∀ (j : Nat) v, acc[j]? = some v → ∃ x y, v = .ref (base + j) ∧ IsTupOf2 h (base + j) x y ∧ P j x y
theorem Prs.to {base i : Nat} {P : Nat → Value → Value → Prop} {h h' : Heap} {acc : Array Value} (q : Prs base P h acc i) (k : ∀ b o, base ≤ b → h.get? b = some o → h'.get? b = some o) : Prs base P h' acc i :=
  ⟨q.1, fun j v e => let ⟨x, y, e1, e3, e4⟩ := q.2 j v e; ⟨x, y, e1, k _ _ (Nat.le_add_right _ _) e3, e4⟩⟩
theorem Prs.push {base i : Nat} {P : Nat → Value → Value → Prop} {h : Heap} {acc : Array Value} {T : Addr} {x y : Value} (q : Prs base P h acc i) (hb : T = base + i) (hT : IsTupOf2 h T x y) (hP : P i x y) : Prs base P h (acc.push (.ref T)) (i + 1) := by
  refine ⟨by rw [Array.size_push, q.1], fun j v hj => ?_⟩
  rw [Array.getElem?_push] at hj
  split at hj
  · rename_i e; rw [q.1] at e; cases hj; rw [e]; subst hb; exact ⟨x, y, rfl, hT, hP⟩
  · exact q.2 j v hj
section
variable {prog : Program} {w : World} {A : Around} {I S : Addr} {wr : List Addr} {n : Nat} {P : Nat → Value → Value → Prop} {St : Nat → Heap → Prop}
end
/-- pairs laid from base on -/
def addT (H : Hp) (base n : Nat) (f : Nat → HO) : Hp := fun b => if base ≤ b ∧ b < base + n then some (f (b - base)) else H b
section
variable {X : Cx} {pins : List (Addr × Obj)} {σ : L2.St} {H : Hp} {s : Shared} {h' : Heap} {L base n t' : Nat} {f : Nat → HO} {o : HO}
def ZpSt (z TI TO i1 i2 S : Addr) (St1 St2 : Nat → Heap → Prop) (i : Nat) (h : Heap) : Prop := IsTupOf2 h TI (.ref i1) (.ref i2) ∧ St1 i h ∧ St2 i h ∧
  ((i = 0 ∧ IsZip h z TI TO .none ∧ ∃ a b, IsTupOf2 h TO a b) ∨ (0 < i ∧ ∃ T f oT, IsZipHeld h z TI TO T f ∧ h.get? T = some oT ∧ T ≠ z ∧ T ≠ i1 ∧ T ≠ i2 ∧ T ≠ S))
end
section
variable {X : Cx} {W : WX} {a b : Expr}
def tListZip (K : PySem.W.Frag) (ta : TA) : TE := fun σ H Q => ta σ H fun vs H1 => ∃ p q xs ys v1 v2, vs = [v1, v2] ∧ ZS.val p v1 ∧ ZS.val q v2 ∧ p.at K H1 xs ∧ q.at K H1 ys ∧ min xs.length ys.length ≤ sizeLine ∧
  ∀ (L base : Addr) (Hm H2 : Hp) (vs : List V), Same H1 Hm → Hm L = none → H2 = upd Hm L (.lst vs) → vs.length = min xs.length ys.length → (∀ (j : Nat) (x y : V), xs[j]? = some x → ys[j]? = some y → ∃ T : Addr, vs[j]? = some (V.ref T) ∧ H1 T = none ∧ Hm T = some (.tup [x, y])) → Q (.ref L) H2
end
section
variable {X : Cx} {W : WX} {a b : Expr}
def dZipN (t : DX (List D)) : DX (List D) := fun ρ z R RX => t ρ z (fun ds ρ' z' => zipG ds fun es => es.length ≤ sizeLine ∧ R es ρ' z') RX
theorem ap_dZipN (t : DX (List D)) (s0 : Sl) (ρ0 : List Sl) (z : Z) (R : List D → List Sl → Z → Prop) (RX : KX) : dZipN t (s0 :: ρ0) z R RX = t (s0 :: ρ0) z (fun ds ρ' z' => zipG ds fun es => es.length ≤ sizeLine ∧ R es ρ' z') RX := rfl
end
end Lay

set_option Elab.async false
set_option linter.all false
set_option maxRecDepth 100000
set_option maxHeartbeats 2000000
namespace Lay
open PySem PySem.Spec PyProof.Rows L2
/-! ### a call of a name of one's own that holds a def -/
structure CalleeAt (P : Program) (w : World) (K : PySem.W.Frag) (mg : Str → Option Value) (base : Heap) (CX : CXT) (k : Nat) (ps : List Str) (sp : Sp) (f : Addr) : Prop where
  ex : ∃ fd, PySem.W.keepIn K (.ref f) = true ∧ Binds K fd ps [] ∧ FnG P w K mg base CX k f fd ps sp
theorem Callee.at {P : Program} {w : World} {K : PySem.W.Frag} {mg : Str → Option Value} {base : Heap} {CX : CXT} {k : Nat} {x : Str} {st : Stmt} {ps : List Str} {sp : Sp} (C : Callee P w K mg base CX k x st ps sp) : ∃ f, mg x = some (.ref f) ∧ CalleeAt P w K mg base CX k ps sp f := by
  obtain ⟨f, fd, hm, F, b, G⟩ := C.ex
  exact ⟨f, hm, fd, F.kp, b, G⟩
section
variable {X : Cx} {W : WX} {j k i : Nat} {ps : List Str} {x : Str} {p pos : Pos} {e : Expr} {es : List Expr} {t : TA}
def tCallV (i : Nat) (C : Addr → Prop) (sp : Sp) (t : TA) : TE := fun σ H Q => ∃ f, σ[i]? = some (some (.ref f)) ∧ C f ∧ t σ H fun vs H1 => sp (vs ++ []) H1 Q E0
def dCallV (i : Nat) (C : Addr → Prop) (sp : PSp) (t : DX (List D)) : DX D := fun ρ z R RX => ∃ f, ρ[i]? = some (.val (.adr f)) ∧ C f ∧ t ρ z (fun ds ρ' z' => sp ds z' (fun d z2 => R d ρ' z2) noP) RX
theorem ap_dCallV (i : Nat) (C : Addr → Prop) (sp : PSp) (t : DX (List D)) (s0 : Sl) (ρ0 : List Sl) (z : Z) (R : D → List Sl → Z → Prop) (RX : KX) : dCallV i C sp t (s0 :: ρ0) z R RX = ∃ f, (s0 :: ρ0)[i]? = some (.val (.adr f)) ∧ C f ∧ t (s0 :: ρ0) z (fun ds ρ' z' => sp ds z' (fun d z2 => R d ρ' z2) noP) RX := rfl
end
end Lay

set_option Elab.async false
set_option linter.all false
set_option maxRecDepth 100000
set_option maxHeartbeats 2000000
namespace Lay
open PySem PySem.Spec PyProof.Rows L2
/-! ### isinstance of an exception that is a value -/
def rIsE (K : PySem.W.Frag) : List V → Hp → VK → Prop := fun xs H Q => ∃ (a C : Addr) (d : Option Addr) (c : V) (b : Bool), ExcC K C ∧ xs = [.ref a, c] ∧ H a = some (ExT C d a) ∧ (∀ dd, d = some dd → ∃ fs, H dd = some (.xd fs)) ∧
  ((∃ u, ClsV c u ∧ PySem.W.kitOne K (.ref C) u = some b) ∨ ∃ tp cs us, c = .ref tp ∧ SqT K H tp cs ∧ Paired ClsV cs us ∧ PySem.W.kitAny K (.ref C) us = some b) ∧ Q (.bl b) H
section
variable {X : Cx} {W : WX} {e c : Expr} {p pos : Pos} {x : Str}
theorem call_isE : CallR X (.builtin "isinstance") (rIsE X.K) := by
  rintro pins s σ H xs us Q I r ⟨a, C, od, c, b, EC, rfl, ea, hd, hc, q⟩
  obtain ⟨u1, u2, rfl, r1, r2⟩ := vals2 r
  obtain rfl : u1 = Value.ref a := r1
  obtain ⟨⟨oe, ha, hz, vs, hv⟩, _, _⟩ := I.hok a _ ea
  have no : PySem.W.notCls oe = true := by unfold PySem.W.notCls; rw [hv]
  obtain ⟨dob, J⟩ : ∃ dob : Option Obj, PySem.W.InstAt s.heap a oe C dob := by
    cases od with
    | none => exact ⟨none, ha, hz.1, no, by rw [hz.2]; trivial⟩
    | some dd =>
      obtain ⟨fs, e⟩ := hd dd rfl
      obtain ⟨mA, hns, _⟩ := (show ObjOk X.prog X.w H s.heap dd (.xd fs) from I.hok dd _ e)
      obtain ⟨o, ho, _⟩ := lookIn_ns hns
      exact ⟨some o, ha, hz.1, no, by rw [hz.2]; exact ho⟩
  have hcl : (PySem.W.clsIn X.K C).isSome = true := by
    obtain ⟨cd, e, _⟩ := PySem.W.any_some EC.hd
    rw [e]; rfl
  have KX := PySem.W.kitx_exc (x := a) (ox := oe) (od := dob) hcl EC.hg EC.hk EC.hs EC.ha EC.hn EC.ht EC.hm
  rcases hc with ⟨u, k, e⟩ | ⟨tp, cs, ws, rfl, hq, k, e⟩
  · obtain rfl := k.eq r2
    exact PySem.W.kia_one KX I.kIn J e (fun z => nomatch z) fun tk => ⟨.bl b, H, I.tok tk, rfl, q⟩
  · obtain rfl : u2 = Value.ref tp := r2
    obtain ⟨its, rs, hl, _⟩ := I.tuple hq
    obtain rfl := ClsV.all k rs
    obtain ⟨n, dd, sl, o⟩ := tup_obj hl
    exact PySem.W.kia_tup KX I.kIn J o e (fun z => nomatch z) fun tk => ⟨.bl b, H, I.tok tk, rfl, q⟩
def dIsE (K : PySem.W.Frag) (te tc : DX D) : DX D := fun ρ z R RX => te ρ z (fun d ρ1 z1 => tc ρ1 z1 (fun c ρ' z' => ∃ C ns ds b, d = .exn C ns ds ∧ ExcC K C ∧ isOf K (.ref C) c b ∧ R (.bl b) ρ' z') RX) RX
theorem ap_dIsE (K : PySem.W.Frag) (te tc : DX D) (s0 : Sl) (ρ0 : List Sl) (z : Z) (R : D → List Sl → Z → Prop) (RX : KX) : dIsE K te tc (s0 :: ρ0) z R RX = te (s0 :: ρ0) z (fun d ρ1 z1 => tc ρ1 z1 (fun c ρ' z' => ∃ C ns ds b, d = .exn C ns ds ∧ ExcC K C ∧ isOf K (.ref C) c b ∧ R (.bl b) ρ' z') RX) RX := rfl
theorem de_isE {te tc : DX D} (ha : DE X W e te) (hc : DE X W c tc) (hg : Gl X x) (hm : X.mg x = none) (hv : bootBuiltins x = some (.builtin "isinstance"))
    (hn : x ≠ "__name__" := by decide) (hdb : (x == ("__debug__" : Str)) = false := by decide) (he : starEach [e, c] X.env = (false, eval e X.env) :: starEach [c] X.env := by rfl) (he2 : starEach [c] X.env = (false, eval c X.env) :: starEach [] X.env := by rfl)
    (hpl : (backTo pos (starEach [c] X.env)).any (·.1) = false := by rfl) : DE X W (.Call (.Name x p) [e, c] [] pos) (dIsE X.K te tc) := by
  refine pe_to (pe_callB call_isE hg hm hv (pa_cons ha (pa_cons hc pa_nil he2) he) hn hdb he hpl) fun σ H Q ⟨M, ρ, z, O, R, RX, w, h, x, k⟩ => ?_
  refine ⟨M, ρ, z, O, _, RX, w, h, x, fun d ρ1 z1 v1 H1 O1 h1 g1 w1 r1 => ⟨M, ρ1, z1, O1, _, RX, w1, h1, x.after g1.toGo, fun c ρ' z' v H' O' ⟨C, ns, ds, b, hd, EC, ho, hR⟩ g w' r => ?_⟩⟩
  subst hd
  have r2 := Rep.mono g.ext _ _ r1
  rw [Rep] at r2
  obtain ⟨a, od, vs, rfl, _, q1, q2, q3, q4, q5⟩ := r2
  refine ⟨a, C, od, v, b, EC, rfl, q1, fun dd e => ⟨_, (q3 dd e).2⟩, ?_, k _ ρ' z' _ H' O' hR (g1.trans g) w' .b⟩
  cases c with
  | tup ds =>
    obtain ⟨us, e1, e2⟩ := ho
    obtain ⟨t, vs, rfl, s1, s2⟩ := RepP.tup (z := z') (.inl r)
    exact .inr ⟨t, vs, us, rfl, s1, clss_of s2 e1, e2⟩
  | ty n => obtain ⟨u, e1, e2⟩ := ho; exact .inl ⟨u, cls_of r e1, e2⟩
  | adr n => obtain ⟨u, e1, e2⟩ := ho; exact .inl ⟨u, cls_of r e1, e2⟩
  | _ => obtain ⟨u, e1, e2⟩ := ho; cases e1
end
/-! ### zip of three -/
def ItzG3 (K : PySem.W.Frag) (p q r : ZS) : It :=
  ⟨fun i H => ∃ (xs ys zs : List V) (x y u : V), p.at K H xs ∧ q.at K H ys ∧ r.at K H zs ∧ xs[i]? = some x ∧ ys[i]? = some y ∧ zs[i]? = some u,
   fun i H v H' => ∃ T x y u, v = .ref T ∧ H T = none ∧ H' = upd H T (.tup [x, y, u]) ∧ (∀ xs, p.at K H xs → xs[i]? = some x) ∧ (∀ ys, q.at K H ys → ys[i]? = some y) ∧ ∀ zs, r.at K H zs → zs[i]? = some u,
   fun i H => ∃ xs ys zs : List V, p.at K H xs ∧ q.at K H ys ∧ r.at K H zs ∧ i ≤ xs.length ∧ i ≤ ys.length ∧ i ≤ zs.length ∧ (i = xs.length ∨ i = ys.length ∨ i = zs.length)⟩
section
variable {X : Cx} {W : WX} {e a b c : Expr} {pos p : Pos}
def iZipG3 (K : PySem.W.Frag) (ta : TA) : TI := fun σ H R => ta σ H fun vs H1 => ∃ p q r xs ys zs v1 v2 v3, vs = [v1, v2, v3] ∧ ZS.val p v1 ∧ ZS.val q v2 ∧ ZS.val r v3 ∧ p.at K H1 xs ∧ q.at K H1 ys ∧ r.at K H1 zs ∧ R (ItzG3 K p q r) H1
def zipD3 (xs ys zs : List D) : List D := (xs.zip (ys.zip zs)).map fun p => .tup [p.1, p.2.1, p.2.2]
def zipG3 : List D → (List D → Prop) → Prop
  | [d1, d2, d3], k => iterD d1 fun ds => iterD d2 fun es => iterD d3 fun fs => k (zipD3 ds es fs)
  | _, _ => False
theorem e_zipG3 (d1 d2 d3 : D) (k : List D → Prop) : zipG3 [d1, d2, d3] k = iterD d1 fun ds => iterD d2 fun es => iterD d3 fun fs => k (zipD3 ds es fs) := rfl
end
end Lay

set_option Elab.async false
set_option linter.all false
set_option maxRecDepth 100000
set_option maxHeartbeats 2000000
namespace Lay
open PySem PySem.Spec PyProof.Rows L2
/-! ### max, min of three whole numbers -/
theorem RepPs.three {K : PySem.W.Frag} {N : Addr → Prop} {z : Z} {H : Hp} {d e f : D} {vs : List V} (h : RepPs K N z H [d, e, f] vs) : ∃ v w u, vs = [v, w, u] ∧ RepP K N z H d v ∧ RepP K N z H e w ∧ RepP K N z H f u := by
  obtain ⟨v, r, rfl, h1, h2⟩ := h
  obtain ⟨w, u, rfl, h3, h4⟩ := RepPs.two h2
  exact ⟨v, w, u, rfl, h1, h3, h4⟩
section
variable {X : Cx} {W : WX} {pos : Pos}
def mm3D (f : Int → Int → Int) : FnD
  | [.int i, .int j, .int l], k => k (.int (f (f i j) l))
  | _, _ => False
theorem e_mm3 (f : Int → Int → Int) (i j l : Int) (k : D → Prop) : mm3D f [.int i, .int j, .int l] k = k (.int (f (f i j) l)) := rfl
abbrev max3D : FnD := mm3D fun i j => if j > i then j else i
abbrev min3D : FnD := mm3D fun i j => if j < i then j else i
end
/-! ### x, y, u = [], [], n: two lists of one's own and a number; the names may be cells -/
section
variable {X : Cx} {W : WX} {pos : Pos}
def dPar3EN (i j l : Nat) (n : Int) : DTS := fun R ρ z => i < ρ.length ∧ j < ρ.length ∧ l < ρ.length ∧ R.nx (((ρ.set i (.own [])).set j (.own [])).set l (.val (.int n))) z
theorem ap_dPar3EN (i j l : Nat) (n : Int) (R : DEnds) (s0 : Sl) (ρ0 : List Sl) (z : Z) : dPar3EN i j l n R (s0 :: ρ0) z = (i < (s0 :: ρ0).length ∧ j < (s0 :: ρ0).length ∧ l < (s0 :: ρ0).length ∧ R.nx ((((s0 :: ρ0).set i (.own [])).set j (.own [])).set l (.val (.int n))) z) := rfl
end
end Lay

set_option Elab.async false
set_option linter.all false
set_option maxRecDepth 100000
set_option maxHeartbeats 2000000
namespace Lay
open PySem PySem.Spec PyProof.Rows L2
/-! ### the memory: lists and dicts that whoever knows their address may read and change -/
def Z.put (z : Z) (a : Addr) (c : Cell) : Z := ⟨z.p, z.c, fun b => if b = a then some c else z.m b⟩
def Z.drop (z : Z) (a : Addr) : Z := ⟨z.p, z.c, fun b => if b = a then none else z.m b⟩
theorem Z.put_m (z : Z) (a : Addr) (c : Cell) : (z.put a c).m a = some c := if_pos rfl
theorem Z.put_ne (z : Z) {a b : Addr} (c : Cell) (h : b ≠ a) : (z.put a c).m b = z.m b := if_neg h
theorem Z.drop_ne (z : Z) {a b : Addr} (h : b ≠ a) : (z.drop a).m b = z.m b := if_neg h
theorem Z.put_put (z : Z) (a : Addr) (c d : Cell) : (z.put a c).put a d = z.put a d := by
  unfold Z.put
  congr 1
  funext b
  by_cases h : b = a
  · simp [h]
  · simp [h]
theorem Z.has_m {z : Z} {a : Addr} {c : Cell} (h : z.m a = some c) : z.has a := .inr ⟨c, h⟩
theorem Z.has_put {z : Z} {a b : Addr} {c : Cell} (h : (z.put a c).has b) : z.has b ∨ b = a := by
  rcases h with h | ⟨d, h⟩
  · exact .inl (.inl h)
  · by_cases e : b = a
    · exact .inr e
    · rw [z.put_ne c e] at h
      exact .inl (.inr ⟨d, h⟩)
theorem Z.has_drop {z : Z} {a b : Addr} (h : (z.drop a).has b) : z.has b := by
  rcases h with h | ⟨d, h⟩
  · exact .inl h
  · by_cases e : b = a
    · rw [e, show (z.drop a).m a = none from if_pos rfl] at h; cases h
    · rw [z.drop_ne e] at h
      exact .inr ⟨d, h⟩
section
variable {K : PySem.W.Frag} {M : Addr → Prop} {H H' : Hp} {σ : L2.St} {ρ : List Sl} {z : Z} {O : Nat → Option Addr} {a p : Addr} {c c' : Cell} {o : HO}
theorem NN.put {b : Addr} (h : NN M (z.put a c) O b) : NN M z O b ∨ b = a := by
  rcases h with h | h | h
  · exact .inl (.inl h)
  · exact (Z.has_put h).imp (fun q => .inr (.inl q)) id
  · exact .inl (.inr (.inr h))
theorem NN.drop {b : Addr} (h : NN M (z.drop a) O b) : NN M z O b := by
  rcases h with h | h | h
  · exact .inl h
  · exact .inr (.inl (Z.has_drop h))
  · exact .inr (.inr h)
/-- what a cell is given: its object at H', what it holds as of H -/
def CellNew (K : PySem.W.Frag) (N : Addr → Prop) (H H' : Hp) (a : Addr) : Cell → Prop
  | .lst ds => ∃ vs, H' a = some (.lst vs) ∧ Reps K N H ds vs
  | .dic ks ds => ∃ vs, H' a = some (.dK (ks.zip vs)) ∧ ks.length = ds.length ∧ Reps K N H ds vs
theorem CellNew.ok {N N' : Addr → Prop} (e : Ext N H N' H') : ∀ {c : Cell}, CellNew K N H H' a c → CellOk K N' H' a c
  | .lst _, ⟨vs, h, r⟩ => ⟨vs, h, Reps.mono e _ _ r⟩
  | .dic _ _, ⟨vs, h, l, r⟩ => ⟨vs, h, l, Reps.mono e _ _ r⟩
/-- a new cell -/
theorem Wd.newM (w : Wd K M H σ ρ z O) (hp : H p = none) (sm : Same H H') (hc : CellNew K (NN M z O) H H' p c) : Wd K M H' σ ρ (z.put p c) O ∧ GoE M H z O H' (z.put p c) O := by
  have al : ∀ a, H a ≠ none → H' a ≠ none := fun a h => by
    cases e : H a with
    | none => exact absurd e h
    | some o => rw [sm a o e]; exact Option.some_ne_none _
  have np : ∀ b, NN M z O b → b ≠ p := fun b h e => w.alloc b h (by rw [e]; exact hp)
  have ex : Ext (NN M z O) H (NN M (z.put p c) O) H' := ⟨fun b u h _ => sm b u h, fun b h => h.put.imp id fun e => by rw [e]; exact hp⟩
  have g : GoE M H z O H' (z.put p c) O := ⟨⟨fun b u h _ => sm b u h, fun b u _ h => sm b u h, ex.nw, fun b h => (Z.has_put h).imp id fun e => by rw [e]; exact hp, al⟩, fun b u h _ => sm b u h⟩
  refine ⟨⟨w.len, fun b h => al b (w.al b h), ⟨fun b h => ?_, fun b d h => ?_⟩, fun b h m => ?_, fun i b h => ?_, fun i s h => (w.sl i s h).mono ex fun b u _ q => sm b u q, w.out⟩, g⟩
  · have q := w.pot.pt b h
    have ne : b ≠ p := np b (.inr (.inl (.inl h)))
    exact ⟨q.1.to fun u e => sm b u e, by rw [z.put_ne c ne]; exact q.2⟩
  · by_cases e : b = p
    · subst e
      rw [z.put_m] at h
      cases h
      exact hc.ok ex
    · rw [z.put_ne c e] at h
      exact (w.pot.mm b d h).mono ex fun u q => sm b u q
  · rcases Z.has_put h with q | q
    · exact w.pm b q m
    · exact np b (.inl m) q
  · obtain ⟨h1, h2, h3, h4⟩ := w.ow i b h
    exact ⟨h1, fun q => (Z.has_put q).elim h2 (np b (.inr (.inr ⟨i, h⟩))), al b h3, h4⟩
/-- a cell written -/
theorem Wd.putM (w : Wd K M H σ ρ z O) (hm : z.m a = some c) (hc : CellNew K (NN M z O) H (upd H a o) a c') : Wd K M (upd H a o) σ ρ (z.put a c') O ∧ GoE M H z O (upd H a o) (z.put a c') O := by
  have ha : z.has a := Z.has_m hm
  have al : ∀ b, H b ≠ none → upd H a o b ≠ none := fun b h => by
    by_cases q : b = a
    · rw [q, upd_same]; exact Option.some_ne_none _
    · rw [upd_ne q]; exact h
  have hn : ∀ b, (z.put a c').has b → z.has b := fun b h => (Z.has_put h).elim id fun e => by rw [e]; exact ha
  have nn : ∀ b, NN M (z.put a c') O b → NN M z O b := fun b h => h.put.elim id fun e => by rw [e]; exact .inr (.inl ha)
  have ex : Ext (NN M z O) H (NN M (z.put a c') O) (upd H a o) := ⟨fun b u h n => by rw [upd_ne (fun e => n (by rw [e]; exact .inr (.inl ha)))]; exact h, fun b h => .inl (nn b h)⟩
  have g : GoE M H z O (upd H a o) (z.put a c') O := ⟨⟨ex.st, fun b u m h => by rw [upd_ne (fun e => w.pm b (by rw [e]; exact ha) m)]; exact h, ex.nw, fun b h => .inl (hn b h), al⟩, fun b u h n => by rw [upd_ne (fun e => n (by rw [e]; exact ha))]; exact h⟩
  refine ⟨⟨w.len, fun b h => al b (w.al b h), ⟨fun b h => ?_, fun b d h => ?_⟩, fun b h m => w.pm b (hn b h) m, fun i b h => ?_, fun i s h => (w.sl i s h).mono ex fun b u e q => ?_, w.out⟩, g⟩
  · have q := w.pot.pt b h
    have ne : b ≠ a := fun e => by rw [e] at q; rw [q.2] at hm; cases hm
    exact ⟨q.1.to fun u e => by rw [upd_ne ne]; exact e, by rw [z.put_ne c' ne]; exact q.2⟩
  · by_cases e : b = a
    · subst e
      rw [z.put_m] at h
      cases h
      exact hc.ok ex
    · rw [z.put_ne c' e] at h
      exact (w.pot.mm b d h).mono ex fun u q => by rw [upd_ne e]; exact q
  · obtain ⟨h1, h2, h3, h4⟩ := w.ow i b h
    exact ⟨h1, fun q => h2 (hn b q), al b h3, h4⟩
  · rw [upd_ne (fun q2 => (w.ow i b e).2.1 (by rw [q2]; exact ha))]; exact q
/-- a cell that is changed no more -/
theorem Wd.dropM (w : Wd K M H σ ρ z O) (hm : z.m a = some c) : Wd K M H σ ρ (z.drop a) O ∧ GoE M H z O H (z.drop a) O ∧ ¬ NN M (z.drop a) O a := by
  have ha : z.has a := Z.has_m hm
  have ex : Ext (NN M z O) H (NN M (z.drop a) O) H := ⟨fun b u h _ => h, fun b h => .inl h.drop⟩
  refine ⟨⟨w.len, w.al, ⟨fun b h => ?_, fun b d h => ?_⟩, fun b h m => w.pm b (Z.has_drop h) m, fun i b h => ?_, fun i s h => (w.sl i s h).mono ex fun b u e q => q, w.out⟩, ⟨⟨ex.st, fun b u m h => h, ex.nw, fun b h => .inl (Z.has_drop h), fun b h => h⟩, fun b u h n => h⟩, ?_⟩
  · have q := w.pot.pt b h
    have ne : b ≠ a := fun e => by rw [e] at q; rw [q.2] at hm; cases hm
    exact ⟨q.1, by rw [z.drop_ne ne]; exact q.2⟩
  · by_cases e : b = a
    · rw [e, show (z.drop a).m a = none from if_pos rfl] at h; cases h
    · rw [z.drop_ne e] at h
      exact (w.pot.mm b d h).mono ex fun u q => q
  · obtain ⟨h1, h2, h3, h4⟩ := w.ow i b h
    exact ⟨h1, fun q => h2 (Z.has_drop q), h3, h4⟩
  · rintro (q | q | ⟨i, q⟩)
    · exact w.pm a ha q
    · rcases q with q | ⟨d, q⟩
      · have := (w.pot.pt a q).2
        rw [this] at hm; cases hm
      · rw [show (z.drop a).m a = none from if_pos rfl] at q; cases q
    · exact (w.ow i a q).2.1 ha
end
section
variable {X : Cx} {W : WX} {e o i a b : Expr} {es : List Expr} {pos : Pos}
/-- a new list as a cell -/
def dMem (t : DX (List D)) : DX D := fun ρ z R RX => t ρ z (fun ds ρ' z' => ∀ a, ¬ z'.has a → R (.adr a) ρ' (z'.put a (.lst ds))) RX
/-- x[i] of a cell that is a list -/
def mixL : D → D → Z → (D → Prop) → Prop
  | .adr a, .int n, z, k => ∃ ds, z.m a = some (.lst ds) ∧ ∃ d, atI ds n = some d ∧ k d
  | _, _, _, _ => False
def dMixL (ta tb : DX D) : DX D := fun ρ z R RX => ta ρ z (fun d ρ1 z1 => tb ρ1 z1 (fun i ρ2 z2 => mixL d i z2 fun r => R r ρ2 z2) RX) RX
/-- d[k] of a cell that is a dict -/
def mixK : D → D → Z → (D → Prop) → Prop
  | .adr a, .str s, z, k => ∃ ks ds, z.m a = some (.dic ks ds) ∧ ∃ d, lookD ks ds (.inr s) = some d ∧ k d
  | _, _, _, _ => False
def dMixK (ta tb : DX D) : DX D := fun ρ z R RX => ta ρ z (fun d ρ1 z1 => tb ρ1 z1 (fun i ρ2 z2 => mixK d i z2 fun r => R r ρ2 z2) RX) RX
theorem de_mixK {ta tb : DX D} (hu : X.A.units + 1 < cLine) (ha : DE X W a ta) (hb : DE X W b tb) (hs : NoSl b) : DE X W (.Subscript a b pos) (dMixK ta tb) := pe_to (pe_dget hu ha hb hs) fun σ H Q ⟨M, ρ, z, O, R, RX, w, h, x, k⟩ =>
  ⟨M, ρ, z, O, _, RX, w, h, x, fun d ρ1 z1 v1 H1 O1 h1 g1 w1 r1 => ⟨M, ρ1, z1, O1, _, RX, w1, h1, x.after g1.toGo, fun i ρ2 z2 v2 H2 O2 h2 g2 w2 r2 => by
    unfold mixK at h2
    split at h2
    · obtain ⟨ks, ds, hm, d', hd, h2⟩ := h2
      obtain rfl := RepP.adr (z := ⟨none, 0, m0⟩) (.inl r1)
      obtain rfl := RepP.str (z := ⟨none, 0, m0⟩) (.inl r2)
      obtain ⟨vs, q1, q2, q3⟩ := w2.pot.mm _ _ hm
      obtain ⟨v, e1, e2⟩ := look_reps q3 hd
      exact ⟨_, v, rfl, .inl ⟨_, _, .inl q1, rfl, e1.symm⟩, k _ ρ2 _ v H2 O2 h2 (g1.trans g2) w2 e2⟩
    · exact h2.elim⟩⟩
/-- x[i] = e of a cell that is a list -/
def msetL : D → D → D → Z → (Z → Prop) → Prop
  | .adr a, .int n, d, z, k => ∃ ds m, z.m a = some (.lst ds) ∧ ixN ds.length n = some m ∧ k (z.put a (.lst (ds.set m d)))
  | _, _, _, _, _ => False
def dMsetL (te ta tb : DX D) : DTS := fun R ρ z => te ρ z (fun d ρ1 z1 => ta ρ1 z1 (fun x ρ2 z2 => tb ρ2 z2 (fun i ρ3 z3 => msetL x i d z3 fun z4 => R.nx ρ3 z4) R.ex) R.ex) R.ex
/-- d[k] = e of a cell that is a dict -/
def putD : List Key → List D → Key → D → List Key × List D
  | k :: ks, d :: ds, q, x => if k = q then (k :: ks, x :: ds) else ((k :: (putD ks ds q x).1), (d :: (putD ks ds q x).2))
  | _, _, q, x => ([q], [x])
def msetK : D → D → D → Z → (Z → Prop) → Prop
  | .adr a, .str s, d, z, k => ∃ ks ds, z.m a = some (.dic ks ds) ∧ ks.length < 1000 ∧ ks.Nodup ∧ k (z.put a (.dic (putD ks ds (.inr s) d).1 (putD ks ds (.inr s) d).2))
  | _, _, _, _, _ => False
theorem putD_len {q : Key} {x : D} : ∀ {ks : List Key} {ds : List D}, ks.length = ds.length → (putD ks ds q x).1.length = (putD ks ds q x).2.length
  | [], [], _ => rfl
  | [], _ :: _, h => by cases h
  | _ :: _, [], h => by cases h
  | k :: ks, d :: ds, h => by
    unfold putD
    split
    · exact h
    · exact congrArg (· + 1) (putD_len (Nat.succ.inj h))
theorem putK_cons_ne {kvs : List (Key × V)} {k q : Key} {u v : V} (h : k ≠ q) : putK ((k, u) :: kvs) q v = (k, u) :: putK kvs q v := by
  unfold putK
  rw [List.any_cons, decide_eq_false (show ¬ (k, u).1 = q from h), Bool.false_or]
  split
  · rw [List.map_cons, if_neg (show ¬ (k, u).1 = q from h)]
  · rfl
theorem putK_cons_eq {kvs : List (Key × V)} {q : Key} {u v : V} (h : ∀ a b, (a, b) ∈ kvs → a ≠ q) : putK ((q, u) :: kvs) q v = (q, v) :: kvs := by
  unfold putK
  rw [List.any_cons, decide_eq_true (show (q, u).1 = q from rfl), Bool.true_or, if_pos rfl, List.map_cons, if_pos rfl]
  congr 1
  rw [List.map_congr_left (g := id) fun p m => if_neg (h p.1 p.2 m), List.map_id]
theorem putD_ok {N : Addr → Prop} {K : PySem.W.Frag} {H : Hp} {q : Key} {x : D} {v : V} (rx : Rep K N H x v) : ∀ {ks : List Key} {ds : List D} {vs : List V}, ks.length = ds.length → ks.Nodup → Reps K N H ds vs →
    ∃ us, putK (ks.zip vs) q v = (putD ks ds q x).1.zip us ∧ Reps K N H (putD ks ds q x).2 us
  | [], [], vs, _, _, r => by
    rw [Reps] at r; subst r
    exact ⟨[v], rfl, .cons rx .nil⟩
  | [], _ :: _, _, h, _, _ => by cases h
  | _ :: _, [], _, h, _, _ => by cases h
  | k :: ks, d :: ds, vs, h, nd, r => by
    rw [Reps] at r
    obtain ⟨u, us, rfl, r1, r2⟩ := r
    rw [List.zip_cons_cons]
    unfold putD
    obtain ⟨n1, n2⟩ := List.nodup_cons.mp nd
    by_cases e : k = q
    · rw [if_pos e]
      subst e
      exact ⟨v :: us, putK_cons_eq fun a b m ea => n1 (by rw [← ea]; exact (List.of_mem_zip m).1), .cons rx r2⟩
    · rw [if_neg e]
      obtain ⟨ws, h1, h2⟩ := putD_ok rx (Nat.succ.inj h) n2 r2
      exact ⟨u :: ws, by rw [putK_cons_ne e, h1]; rfl, .cons r1 h2⟩
def dMsetK (te ta tb : DX D) : DTS := fun R ρ z => te ρ z (fun d ρ1 z1 => ta ρ1 z1 (fun x ρ2 z2 => tb ρ2 z2 (fun i ρ3 z3 => msetK x i d z3 fun z4 => R.nx ρ3 z4) R.ex) R.ex) R.ex
theorem ds_msetK {te ta tb : DX D} {spos : Pos} (hu : X.A.units + 1 < cLine) (he : DE X W e te) (ha : DE X W a ta) (hb : DE X W b tb)
    (hs : swapsWith e (some (.Subscript a b spos)) pos.line X.env = pure false := by rfl) : DS X W (.Assign [.Subscript a b spos] e pos) (dMsetK te ta tb) :=
  ps_to (ps_dput hu ha hb he hs) fun D σ H ⟨M, ρ, z, O, R, w, h, k⟩ =>
  ⟨M, ρ, z, O, _, R.ex, w, h, k.ex, fun d ρ1 z1 v H1 O1 h1 g1 w1 r1 =>
    have k1 := k.after g1.toGo
    ⟨M, ρ1, z1, O1, _, R.ex, w1, h1, k1.ex, fun x ρ2 z2 v2 H2 O2 h2 g2 w2 r2 =>
      have k2 := k1.after g2.toGo
      ⟨M, ρ2, z2, O2, _, R.ex, w2, h2, k2.ex, fun i ρ3 z3 v3 H3 O3 h3 g3 w3 r3 => by
        unfold msetK at h3
        split at h3
        · obtain ⟨ks, ds, hm, hl, nd, h3⟩ := h3
          obtain rfl := RepP.adr (z := ⟨none, 0, m0⟩) (.inl r2)
          obtain rfl := RepP.str (z := ⟨none, 0, m0⟩) (.inl r3)
          obtain ⟨vs, q1, q2, q3⟩ := w3.pot.mm _ _ hm
          have rv := Rep.mono (g2.trans g3).ext _ _ r1
          obtain ⟨us, e1, e2⟩ := putD_ok (q := .inr _) rv q2 nd q3
          obtain ⟨w4, g4⟩ := w3.putM hm (o := .dK (putK (ks.zip vs) (.inr _) v)) (c' := .dic _ _) ⟨us, by rw [upd_same, e1], putD_len q2, e2⟩
          have lz : (ks.zip vs).length < sizeLine := by rw [List.length_zip, sizeLine_eq]; omega
          exact ⟨_, _, rfl, .inl ⟨_, _, q1, rfl, lz, rfl⟩, k2.nx _ _ σ _ O3 h3 (g3.trans g4).toGo w4⟩
        · exact h3.elim⟩⟩⟩
/-- a cell that is a list becomes the own list of a name -/
def dTake (i : Nat) (t : DX D) : DTS := fun R ρ z => t ρ z (fun d ρ' z' => ∃ a ds, d = .adr a ∧ z'.m a = some (.lst ds) ∧ i < ρ'.length ∧ R.nx (ρ'.set i (.own ds)) (z'.drop a)) R.ex
/-- .. or a list that is changed no more -/
def dFrz (t : DX D) : DX D := fun ρ z R RX => t ρ z (fun d ρ' z' => ∃ a ds, d = .adr a ∧ z'.m a = some (.lst ds) ∧ R (.lst ds) ρ' (z'.drop a)) RX
/-- len(x) of a cell -/
def mlen : Cell → Nat
  | .lst ds => ds.length
  | .dic ks _ => ks.length
end
end Lay

set_option Elab.async false
set_option linter.all false
set_option maxRecDepth 100000
set_option maxHeartbeats 2000000
namespace Lay
open PySem PySem.Spec PyProof.Rows L2
/-! ### a dict display as a cell -/
def dVals : List (DX D) → DX (List D)
  | [], ρ, z, R, _ => R [] ρ z
  | t :: ts, ρ, z, R, RX => t ρ z (fun d ρ1 z1 => dVals ts ρ1 z1 (fun ds ρ2 z2 => R (d :: ds) ρ2 z2) RX) RX
theorem pairs_ok {K : PySem.W.Frag} {W : WX} {M : Addr → Prop} {σ : L2.St} {RX : KX} : ∀ (kts : List (Key × DX D)) {ρ : List Sl} {z : Z} {O : Nat → Option Addr} {H : Hp} {R : List D → List Sl → Z → Prop} {Q : List (V × V) → Hp → Prop}, Wd K M H σ ρ z O → dVals (kts.map (·.2)) ρ z R RX → XOk K M W H z O RX →
    (∀ ds ρ' z' vs H' O', R ds ρ' z' → ds.length = kts.length → GoE M H z O H' z' O' → Wd K M H' σ ρ' z' O' → Reps K (NN M z' O') H' ds vs → Q ((kts.map fun kt => kV kt.1).zip vs) H') →
    tPairs (kts.map fun kt => (tC (kV kt.1), UG K W (relE K) kt.2)) σ H Q
  | [], ρ, z, O, H, R, Q, w, h, x, k => k [] ρ z [] H O h rfl .refl w .nil
  | kt :: kts, ρ, z, O, H, R, Q, w, h, x, k => by
    show UG K W (relE K) kt.2 σ H fun y H2 => tPairs (kts.map fun kt => (tC (kV kt.1), UG K W (relE K) kt.2)) σ H2 fun ps H3 => Q ((kV kt.1, y) :: ps) H3
    exact ⟨M, ρ, z, O, _, RX, w, h, x, fun d ρ1 z1 v H1 O1 h1 g1 w1 r1 => pairs_ok kts w1 h1 (x.after g1.toGo) fun ds ρ2 z2 vs H2 O2 h2 l2 g2 w2 r2 => k (d :: ds) ρ2 z2 (v :: vs) H2 O2 h2 (congrArg (· + 1) l2) (g1.trans g2) w2 (.cons (Rep.mono g2.ext _ _ r1) r2)⟩
theorem merge_nd : ∀ (ks : List Key) (vs : List V) (acc : List (Key × V)), (∀ a b, (a, b) ∈ acc → a ∉ ks) → ks.Nodup → mergeK acc (ks.zip vs) = acc ++ ks.zip vs
  | [], vs, acc, _, _ => by rw [List.zip_nil_left, List.append_nil]; rfl
  | k :: ks, [], acc, _, _ => by rw [List.zip_nil_right, List.append_nil]; rfl
  | k :: ks, v :: vs, acc, h, nd => by
    obtain ⟨n1, n2⟩ := List.nodup_cons.mp nd
    rw [List.zip_cons_cons]
    show mergeK (putK acc k v) (ks.zip vs) = _
    rw [putK_new fun a b m e => h a b m (by rw [e]; exact List.mem_cons_self), merge_nd ks vs _ (fun a b m => ?_) n2, List.append_assoc]
    · rfl
    · rcases List.mem_append.mp m with m | m
      · exact fun q => h a b m (List.mem_cons_of_mem _ q)
      · cases List.mem_singleton.mp m; exact n1
def dMemD (ks : List Key) (t : DX (List D)) : DX D := fun ρ z R RX => t ρ z (fun ds ρ' z' => ∀ a, ¬ z'.has a → R (.adr a) ρ' (z'.put a (.dic ks ds))) RX
section
variable {X : Cx} {W : WX} {e o i a b : Expr} {es : List Expr} {pos : Pos}
theorem de_memD {keys : List (Option Expr)} {values : List Expr} (kts : List (Key × DX D)) (h : PPs X pos keys values (kts.map fun kt => (tC (kV kt.1), UG X.K W0 (relE X.K) kt.2))) (hall : keys.all (·.isSome) = true) (hl : keys.length = values.length) (h0 : keys ≠ []) (h15 : keys.length ≤ 15)
    (hk : kts.length ≤ 15) (hd : (kts.map (·.1)).Nodup) : DE X W (.Dict keys values pos) (dMemD (kts.map (·.1)) fun ρ z R _ => dVals (kts.map (·.2)) ρ z R (fun _ _ _ _ _ => False)) :=
  pe_to (pe_disp h hall hl h0 h15) fun σ H Q ⟨M, ρ, z, O, R, RX, w, h, x, k⟩ => fun p hp => by
  have np : ¬ M p := fun m => w.al p m hp
  refine pairs_ok kts (w.hide hp) h (fun _ _ _ _ _ _ _ _ _ h => h.elim) fun ds ρ1 z1 vs H1 O1 h1 l1 g1 w1 r1 => ?_
  refine ⟨g1.km p _ (.inr rfl) upd_same, (kts.map (·.1)).zip vs, ?_, ?_, ?_⟩
  · rw [List.zip_map_left, List.zip_map_left, List.map_map]
    rfl
  · rw [List.length_zip, List.length_map]; omega
  rw [merge_nd _ _ [] (fun _ _ m => by cases m) hd, List.nil_append]
  obtain ⟨wb, eb⟩ := w1.bare np
  have g0 : GoE M H z O H1 z1 O1 := (GoE.upTo GoE.refl hp (.dK [])).trans (g1.low w1 np)
  obtain ⟨w2, g2⟩ := wb.newM (p := p) (H' := upd H1 p (.dK ((kts.map (·.1)).zip vs))) (if_pos rfl) (fun a u q => by
    replace q : (if a = p then none else H1 a) = some u := q
    by_cases hq : a = p
    · rw [if_pos hq] at q; cases q
    · rw [if_neg hq] at q; rw [upd_ne hq]; exact q) (c := .dic (kts.map (·.1)) ds) ⟨vs, upd_same, by rw [List.length_map, l1], Reps.mono eb _ _ r1⟩
  refine k _ ρ1 _ _ _ O1 (h1 p fun q => ?_) ((g0.without hp).trans g2) w2 (by show Rep _ _ _ (.adr p) _; rw [Rep])
  exact w1.pm p q (.inr rfl)
theorem ap_dVals0 (R : List D → List Sl → Z → Prop) (RX : KX) (s0 : Sl) (ρ0 : List Sl) (z : Z) : dVals [] (s0 :: ρ0) z R RX = R [] (s0 :: ρ0) z := rfl
theorem ap_dVals (t : DX D) (ts : List (DX D)) (R : List D → List Sl → Z → Prop) (RX : KX) (s0 : Sl) (ρ0 : List Sl) (z : Z) : dVals (t :: ts) (s0 :: ρ0) z R RX = t (s0 :: ρ0) z (fun d ρ1 z1 => dVals ts ρ1 z1 (fun ds ρ2 z2 => R (d :: ds) ρ2 z2) RX) RX := rfl
theorem ap_dMemD (ks : List Key) (t : DX (List D)) (R : D → List Sl → Z → Prop) (RX : KX) (s0 : Sl) (ρ0 : List Sl) (z : Z) : dMemD ks t (s0 :: ρ0) z R RX = t (s0 :: ρ0) z (fun ds ρ' z' => ∀ a, ¬ z'.has a → R (.adr a) ρ' (z'.put a (.dic ks ds))) RX := rfl
theorem ap_dMem (t : DX (List D)) (R : D → List Sl → Z → Prop) (RX : KX) (s0 : Sl) (ρ0 : List Sl) (z : Z) : dMem t (s0 :: ρ0) z R RX = t (s0 :: ρ0) z (fun ds ρ' z' => ∀ a, ¬ z'.has a → R (.adr a) ρ' (z'.put a (.lst ds))) RX := rfl
theorem ap_dMixL (ta tb : DX D) (R : D → List Sl → Z → Prop) (RX : KX) (s0 : Sl) (ρ0 : List Sl) (z : Z) : dMixL ta tb (s0 :: ρ0) z R RX = ta (s0 :: ρ0) z (fun d ρ1 z1 => tb ρ1 z1 (fun i ρ2 z2 => mixL d i z2 fun r => R r ρ2 z2) RX) RX := rfl
theorem ap_dMixK (ta tb : DX D) (R : D → List Sl → Z → Prop) (RX : KX) (s0 : Sl) (ρ0 : List Sl) (z : Z) : dMixK ta tb (s0 :: ρ0) z R RX = ta (s0 :: ρ0) z (fun d ρ1 z1 => tb ρ1 z1 (fun i ρ2 z2 => mixK d i z2 fun r => R r ρ2 z2) RX) RX := rfl
theorem ap_dMsetL (te ta tb : DX D) (R : DEnds) (s0 : Sl) (ρ0 : List Sl) (z : Z) : dMsetL te ta tb R (s0 :: ρ0) z = te (s0 :: ρ0) z (fun d ρ1 z1 => ta ρ1 z1 (fun x ρ2 z2 => tb ρ2 z2 (fun i ρ3 z3 => msetL x i d z3 fun z4 => R.nx ρ3 z4) R.ex) R.ex) R.ex := rfl
theorem ap_dMsetK (te ta tb : DX D) (R : DEnds) (s0 : Sl) (ρ0 : List Sl) (z : Z) : dMsetK te ta tb R (s0 :: ρ0) z = te (s0 :: ρ0) z (fun d ρ1 z1 => ta ρ1 z1 (fun x ρ2 z2 => tb ρ2 z2 (fun i ρ3 z3 => msetK x i d z3 fun z4 => R.nx ρ3 z4) R.ex) R.ex) R.ex := rfl
theorem ap_dFrz (t : DX D) (R : D → List Sl → Z → Prop) (RX : KX) (s0 : Sl) (ρ0 : List Sl) (z : Z) : dFrz t (s0 :: ρ0) z R RX = t (s0 :: ρ0) z (fun d ρ' z' => ∃ a ds, d = .adr a ∧ z'.m a = some (.lst ds) ∧ R (.lst ds) ρ' (z'.drop a)) RX := rfl
theorem e_mixL (a : Addr) (n : Int) (z : Z) (k : D → Prop) : mixL (.adr a) (.int n) z k = ∃ ds, z.m a = some (.lst ds) ∧ ∃ d, atI ds n = some d ∧ k d := rfl
theorem e_mixK (a : Addr) (s : Str) (z : Z) (k : D → Prop) : mixK (.adr a) (.str s) z k = ∃ ks ds, z.m a = some (.dic ks ds) ∧ ∃ d, lookD ks ds (.inr s) = some d ∧ k d := rfl
theorem e_msetL (a : Addr) (n : Int) (d : D) (z : Z) (k : Z → Prop) : msetL (.adr a) (.int n) d z k = ∃ ds m, z.m a = some (.lst ds) ∧ ixN ds.length n = some m ∧ k (z.put a (.lst (ds.set m d))) := rfl
theorem e_msetK (a : Addr) (s : Str) (d : D) (z : Z) (k : Z → Prop) : msetK (.adr a) (.str s) d z k = ∃ ks ds, z.m a = some (.dic ks ds) ∧ ks.length < 1000 ∧ ks.Nodup ∧ k (z.put a (.dic (putD ks ds (.inr s) d).1 (putD ks ds (.inr s) d).2)) := rfl
/-! ### products of very great numbers -/
def CMulB (i j : Int) : Prop := i.natAbs.log2 + j.natAbs.log2 < 100000000
theorem CMulB.ok {i j : Int} (h : CMulB i j) : IntMulOk i j := by
  have b : ∀ x : Int, Builtin.Int.intBits x ≤ x.natAbs.log2 + 1 := fun x => by
    unfold Builtin.Int.intBits
    split <;> omega
  have h1 := b i
  have h2 := b j
  have h3 : i.natAbs.log2 + j.natAbs.log2 < 100000000 := h
  have e : bitsLine = 134217728 := by decide
  unfold IntMulOk
  intro z
  rw [Bool.and_eq_true] at z
  have z2 := z.2
  unfold Builtin.Int.intTooBig at z2
  have z3 := of_decide_eq_true z2
  rw [e] at z3
  omega
def mulBD : Op2
  | .int i, .int j, k => CMulB i j ∧ k (.int (i * j))
  | _, _, _ => False
theorem e_mulBD (i j : Int) (k : D → Prop) : mulBD (.int i) (.int j) k = (CMulB i j ∧ k (.int (i * j))) := rfl
theorem op_mulB : OpR X (binaryOp .Mult) (rI CMulB fun i j => .int (i * j)) := opI fun _ _ _ _ _ _ _ hc q => mul_int q hc.ok
theorem od_mulB : OpR X (binaryOp .Mult) (OpU X.K mulBD) := by
  rintro pins s σ H x y v u Q I rx ry ⟨N, z, d1, d2, R, al, r1, r2, h, k⟩
  unfold mulBD at h
  split at h
  · obtain rfl := r1.int
    obtain rfl := r2.int
    exact op_mulB pins s σ H _ _ v u Q I rx ry ⟨_, _, rfl, rfl, h.1, k _ _ H h.2 same0 .i⟩
  · exact h.elim
end
/-! ### the end of a law, its script's bits told -/
theorem walk_lawB {l : PySem.W.OpenLaw} {n k : Nat} {q : Program} {loose : List Str} {XP : (Str → Option Value) → Heap → Prop}
    {YP : World → Heap → Prop} {d : DefRec} {K : Params → PySem.W.Frag} {sp : PySem.W.Frag → Sp} {x : Str}
    (hn : l.most = some n) (hn2 : n ≤ sizeLine) (hdf : d.params.defaults = []) (hr : Room k callerA)
    (hY : ∀ (w : World) (h : Heap), YP w h → (K w.params).In h)
    (F : ∀ (w : World) (mg : Str → Option Value) (fa : Addr) (h : Heap), (K w.params).In h → h.Ns mainGlobals mg → mg d.name = some (.ref fa) →
      ∃ fd : FuncData, (∀ (s : Shared) (u : Value), BindsTo s fd ⟨[u], []⟩ [(x, u)]) ∧
        ∀ base : Heap, (K w.params).In base → base.Ns mainGlobals mg → FnG l.prog w (K w.params) mg base CX0 k fa fd [x] (sp (K w.params)))
    (hsp : ∀ (K : PySem.W.Frag) (H : Hp) (a : Addr) (ns : List Int), ns.length ≤ n → (∀ z ∈ ns, z.natAbs.log2 ≤ 1048576) → SqL K H a (ns.map V.int) →
      sp K [.ref a] H (fun v _ => v = .bl true) fun _ _ _ => False) :
    PySem.W.WalkO q loose XP YP l.row.toRowW d [] (fun f vs => PySem.call f vs) := by
  refine Att.attach_callB hn hdf ?_
  intro w s₀ s₁ mg mb fa o pm cd doc a vs ns G Y ho hd hcd hmg hobj hints hlen hbits hg
  have KX := hY w _ Y
  obtain ⟨fd, hb, hF⟩ := F w mg fa _ KX G.T.g hmg
  have hb2 : ∀ z ∈ ns, z.natAbs.log2 ≤ 1048576 := fun z m => by
    have := hbits z m
    unfold Builtin.Int.intBits at this
    split at this
    · rename_i e
      have e0 : z.natAbs = 0 := by simpa using e
      rw [e0]
      decide
    · omega
  exact enter_law KX G.T.g G.T.b G.T.builtins G.T.nolimit hg hobj hints (Nat.le_trans hlen hn2) hr hF hb
    (fun H hO hS => hsp (K w.params) H a ns hlen hb2 hS) fun H e s' z => z
end Lay

set_option Elab.async false
set_option linter.all false
set_option maxRecDepth 100000
set_option maxHeartbeats 2000000
namespace Lay
open PySem PySem.Spec PyProof.Rows L2
section
variable {X : Cx} {W : WX} {e o a b : Expr} {es : List Expr} {pos : Pos}
/-! ### x.insert(0, e), x an own list -/
def dInsert0 (i : Nat) (t : DX D) : DTS := fun R ρ z => ∃ ds0, ρ[i]? = some (.own ds0) ∧ t ρ z (fun d ρ' z' => match ρ'[i]? with | some (.own ds) => ds.length < sizeLine ∧ R.nx (ρ'.set i (.own (d :: ds))) z' | _ => False) R.ex
theorem ap_dInsert0 (i : Nat) (t : DX D) (R : DEnds) (s0 : Sl) (ρ0 : List Sl) (z : Z) : dInsert0 i t R (s0 :: ρ0) z = ∃ ds0, (s0 :: ρ0)[i]? = some (.own ds0) ∧ t (s0 :: ρ0) z (fun d ρ' z' => match ρ'[i]? with | some (.own ds) => ds.length < sizeLine ∧ R.nx (ρ'.set i (.own (d :: ds))) z' | _ => False) R.ex := rfl
/-! ### x[lo:hi] of a cell that is a list -/
def mslL : D → Option Int → Option Int → Z → (D → Prop) → Prop
  | .adr a, lo, hi, z, k => ∃ ds, z.m a = some (.lst ds) ∧ k (.lst (cutL ds lo hi))
  | _, _, _, _, _ => False
def dMslL (t : DX D) (tl th : DX (Option Int)) : DX D := fun ρ z R RX => t ρ z (fun d ρ1 z1 => tl ρ1 z1 (fun l ρ2 z2 => th ρ2 z2 (fun u ρ3 z3 => mslL d l u z3 fun r => R r ρ3 z3) RX) RX) RX
theorem ap_dMslL (t : DX D) (tl th : DX (Option Int)) (s0 : Sl) (ρ0 : List Sl) (z : Z) (R : D → List Sl → Z → Prop) (RX : KX) : dMslL t tl th (s0 :: ρ0) z R RX = t (s0 :: ρ0) z (fun d ρ1 z1 => tl ρ1 z1 (fun l ρ2 z2 => th ρ2 z2 (fun u ρ3 z3 => mslL d l u z3 fun r => R r ρ3 z3) RX) RX) RX := rfl
theorem e_mslL (a : Addr) (lo hi : Option Int) (z : Z) (k : D → Prop) : mslL (.adr a) lo hi z k = ∃ ds, z.m a = some (.lst ds) ∧ k (.lst (cutL ds lo hi)) := rfl
/-! ### dict(pairs), changed no more -/
def pairD (kd : Key × D) : D := .tup [keyD kd.1, kd.2]
def dictPD : List D → (D → Prop) → Prop
  | [.lst ds], k => ∃ kds : List (Key × D), ds = kds.map pairD ∧ (kds.map (·.1)).Nodup ∧ k (.dic (kds.map (·.1)) (kds.map (·.2)))
  | _, _ => False
def dDictP (t : DX (List D)) : DX D := fun ρ z R RX => t ρ z (fun ds ρ' z' => dictPD ds fun d => R d ρ' z') RX
theorem ap_dDictP (t : DX (List D)) (s0 : Sl) (ρ0 : List Sl) (z : Z) (R : D → List Sl → Z → Prop) (RX : KX) : dDictP t (s0 :: ρ0) z R RX = t (s0 :: ρ0) z (fun ds ρ' z' => dictPD ds fun d => R d ρ' z') RX := rfl
theorem e_dictPD (ds : List D) (k : D → Prop) : dictPD [.lst ds] k = ∃ kds : List (Key × D), ds = kds.map pairD ∧ (kds.map (·.1)).Nodup ∧ k (.dic (kds.map (·.1)) (kds.map (·.2))) := rfl
end
end Lay

set_option Elab.async false
set_option linter.all false
set_option maxRecDepth 100000
set_option maxHeartbeats 2000000
namespace Lay
open PySem PySem.Spec PyProof.Rows L2
/-! ### try with several clauses 'except c as n' -/
section
variable {X : Cx} {D : Ends} {Wout : WX} {body : List Stmt} {pos : Pos} {tb : WX → TS}
/-- clauses, one after the other, and what they wish of the body's exception -/
inductive AsOk (X : Cx) (D : Ends) (Wout : WX) : List ExceptHandler → WX → Prop
  | nil : AsOk X D Wout [] Wout
  | cons {x n : Str} {c : Value} {i : Nat} {ts : Addr → Value → Option Addr → TS} {b₀ : Stmt} {suite : List Stmt} {np pos' : Pos} {hds : List ExceptHandler} {W : WX} (hN : X.N.Nodup) (hi : X.N[i]? = some n) (hln : X.env.kindOf n = some .local) (hc : Names X x c)
      (hsu : ∀ (a : Addr) (oe : Obj) (cls : Value) (d : Option Addr) (pn : List (Addr × Obj)), Zc cls d oe → (∃ vs, oe.data = .fields vs) → PSs (X.suite a ((a, oe) :: pn)) (b₀ :: suite) (ts a cls d)) (r : AsOk X D Wout hds W) :
      AsOk X D Wout (.ExceptHandler (some (.Name x np)) (some n) (b₀ :: suite) pos' :: hds) (wAs X.K c i ts W D)
end
/-! over trees: two clauses -/
def dTry2 (K : PySem.W.Frag) (c1 c2 : Value) (i : Nat) (body : DTS) (su1 su2 : Addr → Value → Option Addr → DTS) : DTS := fun R ρ z => body { R with ex := fun C ns ds ρ' z' => ∃ b, PySem.W.exmOne K (.ref C) c1 = some b ∧
  (b = true → ∀ a od, (ns ≠ [] → od ≠ none) → su1 a (.ref C) od { R with nx := fun ρ2 z2 => R.nx (ρ2.set i .any) z2, bk := fun ρ2 z2 => R.bk (ρ2.set i .any) z2, ct := fun ρ2 z2 => R.ct (ρ2.set i .any) z2 } (ρ'.set i (.exc a od ns ds)) z') ∧
  (b = false → ∃ b2, PySem.W.exmOne K (.ref C) c2 = some b2 ∧
    (b2 = true → ∀ a od, (ns ≠ [] → od ≠ none) → su2 a (.ref C) od { R with nx := fun ρ2 z2 => R.nx (ρ2.set i .any) z2, bk := fun ρ2 z2 => R.bk (ρ2.set i .any) z2, ct := fun ρ2 z2 => R.ct (ρ2.set i .any) z2 } (ρ'.set i (.exc a od ns ds)) z') ∧
    (b2 = false → R.ex C ns ds ρ' z')) } ρ z
section
variable {X : Cx} {W : WX} {pos : Pos}
end
theorem ap_dTry2 (K : PySem.W.Frag) (c1 c2 : Value) (i : Nat) (body : DTS) (su1 su2 : Addr → Value → Option Addr → DTS) (R : DEnds) (s0 : Sl) (ρ0 : List Sl) (z : Z) : dTry2 K c1 c2 i body su1 su2 R (s0 :: ρ0) z = body { nx := R.nx, rt := R.rt, bk := R.bk, ct := R.ct, ex := fun C ns ds ρ' z' => ∃ b, PySem.W.exmOne K (.ref C) c1 = some b ∧
  (b = true → ∀ a od, (ns ≠ [] → od ≠ none) → su1 a (.ref C) od { nx := fun ρ2 z2 => R.nx (ρ2.set i .any) z2, rt := R.rt, bk := fun ρ2 z2 => R.bk (ρ2.set i .any) z2, ct := fun ρ2 z2 => R.ct (ρ2.set i .any) z2, ex := R.ex } (ρ'.set i (.exc a od ns ds)) z') ∧
  (b = false → ∃ b2, PySem.W.exmOne K (.ref C) c2 = some b2 ∧
    (b2 = true → ∀ a od, (ns ≠ [] → od ≠ none) → su2 a (.ref C) od { nx := fun ρ2 z2 => R.nx (ρ2.set i .any) z2, rt := R.rt, bk := fun ρ2 z2 => R.bk (ρ2.set i .any) z2, ct := fun ρ2 z2 => R.ct (ρ2.set i .any) z2, ex := R.ex } (ρ'.set i (.exc a od ns ds)) z') ∧
    (b2 = false → R.ex C ns ds ρ' z')) } (s0 :: ρ0) z := rfl
/-! ### a call of a local that holds one of some defs; it may raise -/
structure CalleeS (P : Program) (w : World) (K : PySem.W.Frag) (mg : Str → Option Value) (base : Heap) (CX : CXT) (k : Nat) (ps : List Str) (sp : Sp) (f : Addr) : Prop where
  ex : ∃ fd, PySem.W.keepIn K (.ref f) = true ∧ Binds K fd ps [] ∧ FnG P w K mg base CX k f fd ps sp
section
variable {X : Cx} {W : WX} {CX : CXT} {j k i : Nat} {ps : List Str} {x : Str} {p pos : Pos} {e : Expr} {es : List Expr} {t : TA}
def tCallW (i : Nat) (C : Addr → Sp → Prop) (E : L2.St → XK) (t : TA) : TE := fun σ H Q => ∃ f sp, σ[i]? = some (some (.ref f)) ∧ C f sp ∧ t σ H fun vs H1 => sp (vs ++ []) H1 Q (E σ)
def dCallW (i : Nat) (C : Addr → PSp → Prop) (t : DX (List D)) : DX D := fun ρ z R RX => ∃ f sp, ρ[i]? = some (.val (.adr f)) ∧ C f sp ∧ t ρ z (fun ds ρ' z' => sp ds z' (fun d z2 => R d ρ' z2) (fun C ns es z2 => RX C ns es ρ' z2)) RX
theorem ap_dCallW (i : Nat) (C : Addr → PSp → Prop) (t : DX (List D)) (s0 : Sl) (ρ0 : List Sl) (z : Z) (R : D → List Sl → Z → Prop) (RX : KX) : dCallW i C t (s0 :: ρ0) z R RX = ∃ f sp, (s0 :: ρ0)[i]? = some (.val (.adr f)) ∧ C f sp ∧ t (s0 :: ρ0) z (fun ds ρ' z' => sp ds z' (fun d z2 => R d ρ' z2) (fun C ns es z2 => RX C ns es ρ' z2)) RX := rfl
end
/-! ### a dict cell: two stores at once, x in d -/
section
variable {X : Cx} {W : WX} {a b e : Expr} {pos : Pos}
def dMset2 (i : Nat) (k1 k2 : Str) (t : DX D) : DTS := fun R ρ z => t ρ z (fun d ρ' z' => ∃ a ks ds d1 d2, ρ'[i]? = some (.val (.adr a)) ∧ z'.m a = some (.dic ks ds) ∧ d = .tup [d1, d2] ∧ ks.length ≤ 8 ∧ (∀ k, k ∈ ks → k ≠ .inr k1 ∧ k ≠ .inr k2) ∧ k1 ≠ k2 ∧ R.nx ρ' (z'.put a (.dic (ks ++ [.inr k1, .inr k2]) (ds ++ [d1, d2])))) R.ex
theorem ap_dMset2 (i : Nat) (k1 k2 : Str) (t : DX D) (R : DEnds) (s0 : Sl) (ρ0 : List Sl) (z : Z) : dMset2 i k1 k2 t R (s0 :: ρ0) z = t (s0 :: ρ0) z (fun d ρ' z' => ∃ a ks ds d1 d2, ρ'[i]? = some (.val (.adr a)) ∧ z'.m a = some (.dic ks ds) ∧ d = .tup [d1, d2] ∧ ks.length ≤ 8 ∧ (∀ k, k ∈ ks → k ≠ .inr k1 ∧ k ≠ .inr k2) ∧ k1 ≠ k2 ∧ R.nx ρ' (z'.put a (.dic (ks ++ [.inr k1, .inr k2]) (ds ++ [d1, d2])))) R.ex := rfl
def minK (f : Bool → Bool) : D → D → Z → (D → Prop) → Prop
  | .str s, .adr a, z, k => ∃ ks ds, z.m a = some (.dic ks ds) ∧ k (.bl (f (lookD ks ds (.inr s)).isSome))
  | _, _, _, _ => False
theorem e_minK (f : Bool → Bool) (a : Addr) (s : Str) (z : Z) (k : D → Prop) : minK f (.str s) (.adr a) z k = ∃ ks ds, z.m a = some (.dic ks ds) ∧ k (.bl (f (lookD ks ds (.inr s)).isSome)) := rfl
def dMinK (f : Bool → Bool) (ta tb : DX D) : DX D := fun ρ z R RX => ta ρ z (fun d ρ1 z1 => tb ρ1 z1 (fun i ρ2 z2 => minK f d i z2 fun r => R r ρ2 z2) RX) RX
theorem ap_dMinK (f : Bool → Bool) (ta tb : DX D) (R : D → List Sl → Z → Prop) (RX : KX) (s0 : Sl) (ρ0 : List Sl) (z : Z) : dMinK f ta tb (s0 :: ρ0) z R RX = ta (s0 :: ρ0) z (fun d ρ1 z1 => tb ρ1 z1 (fun i ρ2 z2 => minK f d i z2 fun r => R r ρ2 z2) RX) RX := rfl
end
end Lay

set_option Elab.async false
set_option linter.all false
set_option maxRecDepth 100000
set_option maxHeartbeats 2000000
/-! ### an own exception called with keywords: the class's own __new__ passes them by, its __init__ takes them -/
namespace PySem
namespace HandSPX
open Builtin Builtin.ObjectAttr
section
variable {M : Model} {A : Around} {E : Value → Shared → Prop} {h : Heap} {g : Array GenState} {d : Drawn} {t : Nat} {os : OsState}
variable {nm q : Str} {C N : Addr} {bs bm bmB : List Value} {hdct : Bool} {sn : List Str} {sub : List Value} {ab : Bool} {col : Option Bool} {dd : Option Addr} {k0 k1 k2 k3 k5 : Option Value} {B newId initId : String}
theorem look_new_kw (F : ExcBaseFacts B newId initId bmB) (hT : ∀ X : String, bm.contains (.type X) = bmB.contains (.type X)) {rest : List Value} {kw : List (Str × Value)} {Q : Unit → Shared → Prop}
    (hC : h.get? C = some (excClassObj nm q C N bs bm hdct sn sub ab col dd k0 k1 k2 k3 k5 newId)) (hq : Q () ⟨h, g, d, t, os⟩) : wpAny M A (checkBuiltinCall newId ⟨.ref C :: rest, kw⟩) Q E ⟨h, g, d, t, os⟩ := by
  have yes : (Value.ref C :: bm).contains (.type B) = true := by rw [List.contains_cons, hT, F.hasB, Bool.or_true]
  have st := F.noStar
  simp only [checkBuiltinCall, F.newKind, F.newSplit, F.newRow]
  repeat (first | refine wpAny_loadPart_at hC ?_ | (refine wpAny_isSubtype_exc hC ?_; rw [yes]) | refine wpAny_staticBase_exc hC ?_ | refine wpAny_madeBy_exc hC ?_ | simp only [bne_self_eq_false, Bool.false_eq_true, if_false] | wp_step)
  exact hq
end
section
variable {prog : Program} {w : World} {A : Around} {E : Value → Shared → Prop} {R : Result → Shared → Prop} {h : Heap} {g : Array GenState} {d : Drawn} {t : Nat} {os : OsState}
variable {nm q : Str} {C N : Addr} {bs bm bmB : List Value} {hdct : Bool} {sn : List Str} {sub : List Value} {ab : Bool} {col : Option Bool} {dd : Option Addr} {k0 k1 k2 k3 k5 : Option Value} {B newId initId : String}
theorem new_kw (F : ExcBaseFacts B newId initId bmB) (hT : ∀ X : String, bm.contains (.type X) = bmB.contains (.type X)) {rest : List Value} {kw : List (Str × Value)}
    (hC : h.get? C = some (excClassObj nm q C N bs bm hdct sn sub ab col dd k0 k1 k2 k3 k5 newId))
    (hq : R (.ok (.ret (.ref (h.objs.size + 1)))) ⟨(h.push { cls := .type "tuple", data := .seq rest.toArray }).push
      { cls := .ref C, data := .fields #[.ref h.objs.size, .none, .none, .none, .bool false, .none] }, g, d, t, os⟩) (hrest : rest.length ≤ sizeLine) :
    codeAny (model prog w) A (.builtin newId ⟨.ref C :: rest, kw⟩) R ⟨h, g, d, t, os⟩ := by
  have hends := F.ends
  have yes : (Value.ref C :: bm).contains (.type B) = true := by rw [List.contains_cons, hT, F.hasB, Bool.or_true]
  have noA : (Value.ref C :: bm).contains (.type "AttributeError") = false := by rw [List.contains_cons, hT, F.noAttr]; rfl
  have noN : (Value.ref C :: bm).contains (.type "NameError") = false := by rw [List.contains_cons, hT, F.noName]; rfl
  refine codeAny_builtinAt F.entry ?_
  unfold Builtin.«BaseException.__new__»
  refine wpAt_bind ?_
  show wpAt _ _ _ (stack >>= _) _ _ _
  refine wpAt_bind (wpAt_stack fun p below => wpAt_of_wpAny ?_)
  wp_walk
  refine wpAt_of_wpAny ?_
  rw [F.owner]
  repeat (first | with_reducible refine wpAny_madeHere_exc F.canon hC ?_ | with_reducible refine wpAny_loadPart_at hC ?_ | (with_reducible refine wpAny_isSubtype_exc hC ?_; first | rw [yes] | rw [noA] | rw [noN]) | wp_step)
  show R _ _
  rw [Heap.size_push]
  exact hq
theorem type_call_kw (F : ExcBaseFacts B newId initId bmB) (hT : ∀ X : String, bm.contains (.type X) = bmB.contains (.type X)) {rest : List Value} {kw : List (Str × Value)} {fI : Addr} {Q : Fin → Shared → Prop}
    (hC : h.get? C = some (excClassObj nm q C N bs bm hdct sn sub ab col dd k0 k1 k2 k3 k5 newId))
    (hi : W.Looks (model prog w) h (typeLookup (.ref C) "__init__") (some (.ref fI))) (hb : ∀ self, W.Looks (model prog w) h (bindSpecial (.ref fI) self) (.ref fI, [self])) (hrest : rest.length ≤ sizeLine)
    (hq : codeAny (model prog w) A (.call (.ref fI) ⟨.ref (h.objs.size + 1) :: rest, kw⟩)
      (fun r s' => match r with | .ok (.ret v) => v = .none ∧ Q (.done (.ret (.ref (h.objs.size + 1)))) s' | .ok _ => False | .error e => E e s')
      ⟨(h.push (W.kdv_tup rest)).push (excO C h.objs.size), g, d, t, os⟩) :
    wpAny (model prog w) A (Builtin.«type.__call__» ⟨.ref C :: rest, kw⟩) Q E ⟨h, g, d, t, os⟩ := by
  repeat (first | with_reducible refine wpAny_loadPart_at hC ?_ | with_reducible refine wpAny_madeBy_exc hC ?_ | wp_step)
  refine codeAny_call_builtin_code (Code.quiet_builtin _ F.quiet) (look_new_kw F hT hC ?_)
  refine new_kw F hT hC ?_ hrest
  show wpAny _ _ _ _ _ _
  have k : ∀ b o, h.get? b = some o → ((h.push (W.kdv_tup rest)).push (excO C h.objs.size)).get? b = some o := fun b o e => Heap.get?_push_of_some _ (Heap.get?_push_of_some _ e)
  have C1 := k _ _ hC
  have made : ((h.push (W.kdv_tup rest)).push (excO C h.objs.size)).get? (h.objs.size + 1) = some (excO C h.objs.size) := by heap_get
  have mine : (Value.ref C :: bm).contains (.ref C) = true := by simp
  have i1 := hi.keeps k
  have b1 := (hb (.ref (h.objs.size + 1))).keeps k
  unfold isInstance
  repeat (first | with_reducible refine wpAny_loadPart_at made ?_ | (with_reducible refine wpAny_isSubtype_exc C1 ?_; rw [mine]) | wp_step)
  show wpAny _ _ (typeLookup (.ref C) _) _ _ _
  refine i1.at ?_
  refine wpAny_holding (wpAny_bind (b1.at ?_))
  refine wpAny_bind (wpAny_call (codeAny_mono hq fun r s' z => ?_))
  rcases r with e | (v | _ | _ | _) <;> first | exact z | exact z.elim | skip
  obtain ⟨rfl, z⟩ := z
  first
    | exact wpAny_pure (wpAny_pure z)
    | (wp_walk; exact z)
theorem call_kw (F : ExcBaseFacts B newId initId bmB) (hT : ∀ X : String, bm.contains (.type X) = bmB.contains (.type X)) {rest : List Value} {kw : List (Str × Value)} {fI : Addr}
    (hC : h.get? C = some (excClassObj nm q C N bs bm hdct sn sub ab col dd k0 k1 k2 k3 k5 newId))
    (hi : W.Looks (model prog w) h (typeLookup (.ref C) "__init__") (some (.ref fI))) (hb : ∀ self, W.Looks (model prog w) h (bindSpecial (.ref fI) self) (.ref fI, [self])) (hrest : rest.length ≤ sizeLine)
    (hq : codeAny (model prog w) (A.under (.builtin "type.__call__" ⟨.ref C :: rest, kw⟩)) (.call (.ref fI) ⟨.ref (h.objs.size + 1) :: rest, kw⟩) (W.InitBack (h.objs.size + 1) R)
      ⟨(h.push (W.kdv_tup rest)).push (excO C h.objs.size), g, d, t, os⟩) :
    codeAny (model prog w) A (.call (.ref C) ⟨rest, kw⟩) R ⟨h, g, d, t, os⟩ := by
  have f1 := tc_lookup
  have f2 := tc_bind (.ref C)
  have ty : (⟨h, g, d, t, os⟩ : Shared).TypeIs (.ref C) "type" := ⟨_, hC, rfl⟩
  refine codeAny_of_tree ?_
  show wpAny _ _ (callAny (.ref C) _) _ _ _
  repeat (any_goals (first | assumption | with_reducible refine wpAny_loadPart_at hC ?_ | wp_step))
  refine ⟨rfl, ?_⟩
  refine codeAny_call_builtin_at (Code.quiet_builtin _ (by decide +kernel)) entry_typeCall (wpAny_check_type_call_sub hC (type_call_kw F hT hC hi hb hrest ?_))
  refine codeAny_mono hq fun r s' z => ?_
  rcases r with e | (v | _ | _ | _) <;> exact z
end
end HandSPX
end PySem
namespace Lay
open PySem PySem.Spec PyProof.Rows L2
section
variable {X : Cx} {pins : List (Addr × Obj)} {σ : L2.St} {H : Hp} {s : Shared} {C fI : Addr} {fd : FuncData} {ps fn : List Str} {Q : XK}
/-- a new exception of ours, made by its own __init__ -/
theorem gexc (T : OexC X.K C) (iC : PySem.W.findIn X.K (.ref C) "__init__" = some (some (.ref fI))) (tI : PySem.W.typeIn X.K (.ref fI) = some (.type "function")) (F1 : FnOk X.prog X.w X.K X.mg X.base CX0 1 fI fd ps (spX C fn)) (hr : Room 2 X.A)
    (I : Inv X pins σ H s) {us : List Value} {kw : List (Str × Value)} {wz : Value → List Value} {vz : V → List V} (hb : ∀ (s : Shared) (a : Addr), X.K.In s.heap → BindsTo s fd ⟨.ref a :: us, kw⟩ (ps.zip (wz (.ref a)))) (r : ∀ a : Addr, Vals (vz (.ref a)) (wz (.ref a))) (hus : us.length ≤ 1000)
    (h : ∀ a, H a = none → ∃ ws, vz (.ref a) = .ref a :: ws ∧ ws.length = fn.length ∧ ws.length ≤ 1000 ∧ ∀ d, H d = none → Q (.ref C) (some d) (upd H d (.xd (fn.zip ws).reverse))) :
    wpAny (model X.prog X.w) X.A (call (.ref C) us kw) (MkP X pins σ Q) X.xe s := by
  obtain ⟨nm, q, N, bs, bm, sn, sub, ab, col, dd, k0, k1, k2, k3, k5, hC, hbm⟩ := T.cls
  obtain ⟨hp, g, dr, tk, os⟩ := s
  have big : hp.objs.size ≤ hp.objs.size + 1 := Nat.le_succ _
  have hn : H (hp.objs.size + 1) = none := I.hok.fresh big
  obtain ⟨ws, ev, lw, zw, hq0⟩ := h _ hn
  have grows : ∀ b o, hp.get? b = some o → ((hp.push (PySem.W.kdv_tup us)).push (PySem.HandSPX.excO C hp.objs.size)).get? b = some o := fun b o e => Heap.get?_push_of_some _ (Heap.get?_push_of_some _ e)
  have there : ((hp.push (PySem.W.kdv_tup us)).push (PySem.HandSPX.excO C hp.objs.size)).get? (hp.objs.size + 1) = some (PySem.HandSPX.excO C hp.objs.size) := by heap_get
  have I2 : Inv X pins σ (upd H (hp.objs.size + 1) (exo (hp.objs.size + 1) C none)) ⟨(hp.push (PySem.W.kdv_tup us)).push (PySem.HandSPX.excO C hp.objs.size), g, dr, tk, os⟩ :=
    I.laid (t' := tk) (a := hp.objs.size + 1) (o := exo (hp.objs.size + 1) C none) (h' := (hp.push (PySem.W.kdv_tup us)).push (PySem.HandSPX.excO C hp.objs.size)) grows big (exo_ok there)
  have ok := (tMkX_ok (C := C) (fn := fn) (vs := ws) (H1 := H) (Q := Q) lw zw hq0).2 _ hn
  rw [List.append_nil, ← ev] at ok
  have hus' : us.length ≤ sizeLine := Nat.le_trans hus (by decide)
  refine wpAny_call (PySem.HandSPX.call_kw F.excBase_ValueError (fun Y => PySem.HandSPX.refsVE_contains Y bm hbm) (I.kIn _ _ hC) (PySem.W.looks_findIn I.kIn iC) (fun self => PySem.W.bind_fn I.kIn self tI) hus'
    (codeAny_mono (F1.run _ X.stack _ _ ⟨Value.ref (hp.objs.size + 1) :: us, kw⟩ (wz (.ref (hp.objs.size + 1))) _ _ (fun _ _ _ => False) (hr.make C us kw) (I2.env0.make C us kw) (hb _ _ I2.kIn) (r _) ok) fun rr s' hq' => ?_))
  cases rr with
  | error er => exact pass0 pins σ _ _ er s' I2 hq'
  | ok fl =>
    cases fl with
    | ret u =>
      obtain ⟨v, H2, os2, bare2, un2, hok2, rv, evn, d, fs, ea, ed, hd1, q2⟩ := hq'
      subst evn
      obtain ⟨h2, g2, d2, t2, os'⟩ := s'
      exact ⟨rv, mk_end (raises_own T.exC T.tyC) I big grows un2 hok2 os2 bare2 ea ed hd1 q2⟩
    | next => exact False.elim hq'
    | brk => exact False.elim hq'
    | cont => exact False.elim hq'
/-- what makes an exception gives it as a value -/
theorem pe_mk {e : Expr} {t : L2.St → Hp → XK → Prop} (he : PMk X e t) : PE X e (fun σ H Q => t σ H fun cls od H1 => ∃ C, cls = .ref C ∧ ∀ a, H1 a = none → Q (.ref a) (upd H1 a (ExT C od a))) := by
  refine ⟨fun pins s σ H Q I h => ?_⟩
  refine wpAny_mono (he pins s σ H _ I h) (fun u s' hu => ?_) fun _ _ x => x
  obtain ⟨a, oe, vs, sI, H', cls, d, rfl, J, k, hne, ha, hz, hd, _, na, os, ag, _, C, rfl, q⟩ := hu
  exact ⟨.ref a, _, J.call' (ch := []) os (Un.laidN k hne na) (J.hok.laidN k na (exT_ok ha hz ⟨_, hd⟩)) ag (fun b z => absurd z (by simp)), rfl, q a na⟩
end
/-- an own exception with its own __init__, as those see it that call its class with keywords -/
structure ExcV (P : Program) (w : World) (K : PySem.W.Frag) (mg : Str → Option Value) (base : Heap) (x : Str) (C : Addr) (D' : Addr → FuncData → Prop) (fn ps : List Str) : Prop where
  T : OexC K C
  mgx : mg x = some (.ref C)
  ex : ∃ (fI : Addr) (fd : FuncData), PySem.W.findIn K (.ref C) "__init__" = some (some (.ref fI)) ∧ PySem.W.typeIn K (.ref fI) = some (.type "function") ∧ D' fI fd ∧ FnOk P w K mg base CX0 1 fI fd ps (spX C fn)
section
variable {X : Cx} {W : WX} {x : Str} {C : Addr} {D' : Addr → FuncData → Prop} {fn ps ks : List Str} {n j : Nat} {e : Expr} {es : List Expr} {kws : List Keyword} {p pos : Pos} {g : List Value → List Value → List Value} {gV : List V → List V → List V} {gD : List D → List D → List D}
def mkW (C : Addr) (fn : List Str) (vz : V → List V) (H : Hp) (Q : XK) : Prop := ∀ a, H a = none → ∃ ws, vz (.ref a) = .ref a :: ws ∧ ws.length = fn.length ∧ ws.length ≤ 1000 ∧ ∀ d, H d = none → Q (.ref C) (some d) (upd H d (.xd (fn.zip ws).reverse))
theorem ExcV.kw {t tk : TA} (E : ExcV X.prog X.w X.K X.mg X.base x C D' fn ps) (hb : ∀ (f : Addr) (fd : FuncData), D' f fd → KwB X.K fd ps (n + 1) ks g gV) (hG : Gl X x) (hr : Room j X.A) (ha : PA X (e :: es) t) (hkw : PK X kws tk) (hj : 2 ≤ j := by decide)
    (hall : (backToKw pos (keywordEach kws X.env)).all (·.1.isSome) = true := by rfl) (hks : (backToKw pos (keywordEach kws X.env)).filterMap (·.1) = ks := by rfl)
    (hdb : (x == ("__debug__" : Str)) = false := by decide) (he : starEach (e :: es) X.env = (false, eval e X.env) :: starEach es X.env := by rfl)
    (hpl : ((backTo pos (starEach (e :: es) X.env)).any (·.1) || (backToKw pos (keywordEach kws X.env)).any (·.1.isNone)) = false := by rfl) :
    PMk X (.Call (.Name x p) (e :: es) kws pos) (fun σ H Q => t σ H fun vs H1 => tk σ H1 fun zs H2 => vs.length = n ∧ n ≤ 1000 ∧ zs.length = ks.length ∧ mkW C fn (fun y => gV (y :: vs) zs) H2 Q) := by
  obtain ⟨fI, fd, iC, tI, F, G⟩ := E.ex
  have kb := hb fI fd F
  intro pins s σ H Q I h
  refine wpAny_Call_Name_kw (ld_glob I hG E.mgx ?_ hdb)
  refine PySem.W.callWith_KW (h₀ := X.base) I.ok.mod.kin E.T.kC hall (thn (ha.run pos pins s σ H _ I h) ?_) hpl he
  rintro us s1 ⟨vs, H1, I1, r, z⟩
  refine thn (hkw.run pos pins s1 σ H1 _ I1 z) ?_
  rintro ws s2 ⟨zs, H2, I2, rz, l1, l0, l2, z2⟩
  refine ⟨I2.kIn, ?_⟩
  rw [hks]
  have n1 : us.length = n := by rw [← r.length]; exact l1
  have n2 : ws.length = ks.length := by rw [← rz.length]; exact l2
  exact gexc (us := us) (vz := fun y => gV (y :: vs) zs) (wz := fun y => g (y :: us) ws) E.T iC tI G (hr.mono hj) I2 (fun s a kk => kb.to s (.ref a :: us) ws kk (by rw [List.length_cons, n1]) n2)
    (fun a => kb.rel (.ref a :: vs) zs (.ref a :: us) ws (by rw [List.length_cons, l1]) l2 (.cons rfl r) rz) (by rw [n1]; exact l0) z2
/-! over trees -/
def dExc (C : Addr) (fn : List Str) (t : DX (List D)) : DX D := fun ρ z R RX => t ρ z (fun ds ρ' z' => ds.length = fn.length ∧ ds.length ≤ 1000 ∧ R (.exn C fn ds) ρ' z') RX
def dExcKw (C : Addr) (fn : List Str) (n m : Nat) (gD : List D → List D → List D) (t tk : DX (List D)) : DX D := fun ρ z R RX => t ρ z (fun ds ρ1 z1 => tk ρ1 z1 (fun es ρ2 z2 => ds.length = n ∧ n ≤ 1000 ∧ es.length = m ∧ (gD ds es).length = fn.length ∧ fn.length ≤ 1000 ∧ R (.exn C fn (gD ds es)) ρ2 z2) RX) RX
def dExcU (C : Addr) : DX D := fun ρ z R _ => R (.exn C [] []) ρ z
theorem exn_at {K : PySem.W.Frag} {M : Addr → Prop} {H : Hp} {σ : L2.St} {ρ : List Sl} {z : Z} {O : Nat → Option Addr} {ds : List D} {vs : List V} {C : Addr} {fn : List Str} {Q : VK} (w : Wd K M H σ ρ z O) (r : Reps K (NN M z O) H ds vs) (l : fn.length = ds.length)
    (k : ∀ v H', GoE M H z O H' z O → Wd K M H' σ ρ z O → Rep K (NN M z O) H' (.exn C fn ds) v → Q v H') :
    ∀ d, H d = none → ∃ C', Value.ref C = .ref C' ∧ ∀ a, upd H d (.xd (fn.zip vs).reverse) a = none → Q (.ref a) (upd (upd H d (.xd (fn.zip vs).reverse)) a (ExT C' (some d) a)) := by
  refine fun d hd => ⟨C, rfl, fun a ha => ?_⟩
  obtain ⟨w2, g2⟩ := w.grow (same_new (o := .xd (fn.zip vs).reverse) hd)
  obtain ⟨w3, g3⟩ := w2.grow (same_new (o := ExT C (some d) a) ha)
  have nd : d ≠ a := fun q => by subst q; rw [upd_same] at ha; cases ha
  refine k _ _ (g2.trans g3) w3 ?_
  rw [Rep]
  refine ⟨a, some d, vs, rfl, fun q => w2.alloc a q ha, upd_same, l, fun dd e => ?_, (fun e => by cases e), Reps.mono (g2.trans g3).ext _ _ r⟩
  cases e
  exact ⟨fun q => w.alloc _ q hd, by rw [upd_ne nd, upd_same]⟩
theorem ExcOk.dExc {t : DX (List D)} (E : ExcOk X.prog X.w X.K X.mg X.base x C fn ps) (hG : Gl X x) (hr : Room j X.A) (ha : DAs X W (e :: es) t) (hj : 2 ≤ j := by decide)
    (hdb : (x == ("__debug__" : Str)) = false := by decide) (he : starEach (e :: es) X.env = (false, eval e X.env) :: starEach es X.env := by rfl) (hpl : (backTo pos (starEach es X.env)).any (·.1) = false := by rfl) :
    DE X W (.Call (.Name x p) (e :: es) [] pos) (dExc C fn t) := pe_to (pe_mk (E.make hG hr ha hj hdb he hpl)) fun σ H Q ⟨M, ρ, z, O, R, RX, w, h, x, k⟩ =>
  ⟨M, ρ, z, O, _, RX, w, h, x, fun ds ρ1 z1 vs H1 O1 ⟨l1, l2, h1⟩ g1 w1 r1 => by
    have lv := Reps.length r1
    exact ⟨by rw [← lv]; exact l1, by rw [← lv]; exact l2, exn_at w1 r1 l1.symm fun v H' g w r => k _ ρ1 z1 v H' O1 h1 (g1.trans g) w r⟩⟩
theorem ExcV.dkw {t tk : DX (List D)} (E : ExcV X.prog X.w X.K X.mg X.base x C D' fn ps) (kd : KwM n ks.length gV gD) (hb : ∀ (f : Addr) (fd : FuncData), D' f fd → KwB X.K fd ps (n + 1) ks g gV) (hG : Gl X x) (hr : Room j X.A) (ha : DAs X W (e :: es) t) (hkw : DKw X W kws tk) (hj : 2 ≤ j := by decide)
    (hall : (backToKw pos (keywordEach kws X.env)).all (·.1.isSome) = true := by rfl) (hks : (backToKw pos (keywordEach kws X.env)).filterMap (·.1) = ks := by rfl)
    (hdb : (x == ("__debug__" : Str)) = false := by decide) (he : starEach (e :: es) X.env = (false, eval e X.env) :: starEach es X.env := by rfl)
    (hpl : ((backTo pos (starEach (e :: es) X.env)).any (·.1) || (backToKw pos (keywordEach kws X.env)).any (·.1.isNone)) = false := by rfl) :
    DE X W (.Call (.Name x p) (e :: es) kws pos) (dExcKw C fn n ks.length gD t tk) := pe_to (pe_mk (E.kw hb hG hr ha hkw hj hall hks hdb he hpl)) fun σ H Q ⟨M, ρ, z, O, R, RX, w, h, x, k⟩ =>
  ⟨M, ρ, z, O, _, RX, w, h, x, fun ds ρ1 z1 vs H1 O1 h1 g1 w1 r1 => ⟨M, ρ1, z1, O1, _, RX, w1, h1, x.after g1.toGo, fun es ρ2 z2 ws H2 O2 ⟨l1, l0, l2, l3, l4, h2⟩ g2 w2 r2 => by
    have m1 : vs.length = n := by rw [← Reps.length r1]; exact l1
    have m2 : ws.length = ks.length := by rw [← Reps.length r2]; exact l2
    refine ⟨m1, l0, m2, fun a ha => ?_⟩
    obtain ⟨us, e1, e2⟩ := kd (.ref a) vs ws m1 m2
    have r3 := e2 X.K _ _ ds es (Reps.mono g2.ext _ _ r1) r2
    have lv := Reps.length r3
    exact ⟨us, e1, by rw [← lv]; exact l3, by rw [← lv, l3]; exact l4, exn_at w2 r3 l3.symm fun v H' g w r => k _ ρ2 z2 v H' O2 h2 (g1.trans (g2.trans g)) w r⟩⟩⟩
theorem ap_dExc (C : Addr) (fn : List Str) (t : DX (List D)) (s0 : Sl) (ρ0 : List Sl) (z : Z) (R : D → List Sl → Z → Prop) (RX : KX) : dExc C fn t (s0 :: ρ0) z R RX = t (s0 :: ρ0) z (fun ds ρ' z' => ds.length = fn.length ∧ ds.length ≤ 1000 ∧ R (.exn C fn ds) ρ' z') RX := rfl
theorem ap_dExcKw (C : Addr) (fn : List Str) (n m : Nat) (gD : List D → List D → List D) (t tk : DX (List D)) (s0 : Sl) (ρ0 : List Sl) (z : Z) (R : D → List Sl → Z → Prop) (RX : KX) : dExcKw C fn n m gD t tk (s0 :: ρ0) z R RX =
  t (s0 :: ρ0) z (fun ds ρ1 z1 => tk ρ1 z1 (fun es ρ2 z2 => ds.length = n ∧ n ≤ 1000 ∧ es.length = m ∧ (gD ds es).length = fn.length ∧ fn.length ≤ 1000 ∧ R (.exn C fn (gD ds es)) ρ2 z2) RX) RX := rfl
theorem ap_dExcU (C : Addr) (s0 : Sl) (ρ0 : List Sl) (z : Z) (R : D → List Sl → Z → Prop) (RX : KX) : dExcU C (s0 :: ρ0) z R RX = R (.exn C [] []) (s0 :: ρ0) z := rfl
/-- e.f of an exception of any class of ours -/
def xfG (K : PySem.W.Frag) (f : Str) : D → (D → Prop) → Prop
  | .exn C ns ds, k => XfC K C ∧ PySem.W.findIn K (.ref C) f = some none ∧ ns ≠ [] ∧ ∃ d, ((ns.zip ds).reverse).lookup f = some d ∧ k d
  | _, _ => False
theorem e_xfG (K : PySem.W.Frag) (C : Addr) (f n : Str) (ns : List Str) (ds : List D) (k : D → Prop) : xfG K f (.exn C (n :: ns) ds) k = (XfC K C ∧ PySem.W.findIn K (.ref C) f = some none ∧ ∃ d, (((n :: ns).zip ds).reverse).lookup f = some d ∧ k d) :=
  propext ⟨fun ⟨a, b, _, h⟩ => ⟨a, b, h⟩, fun ⟨a, b, h⟩ => ⟨a, b, List.cons_ne_nil _ _, h⟩⟩
end
end Lay

set_option Elab.async false
set_option linter.all false
set_option maxRecDepth 100000
set_option maxHeartbeats 2000000
namespace Lay
open PySem PySem.Spec PyProof.Rows L2
/-! ### repr of data with empty dicts in it -/
def keyP : Key → PyData
  | .inl i => .int i
  | .inr z => .str z
def keyOk : Key → Prop
  | .inl i => i.natAbs.log2 < 1920
  | .inr z => z.cps.all (· < 0x110000) = true
def keyBulk : Key → Nat
  | .inl _ => 0
  | .inr z => z.cps.size
mutual
def pyX : D → PyData
  | .non => .none
  | .bl b => .bool b
  | .int i => .int i
  | .str z => .str z
  | .tup ds => .tuple (pyXs ds)
  | .lst ds => .list (pyXs ds)
  | .dic ks ds => .dict ((ks.map keyP).zip (pyXs ds))
  | _ => .none
def pyXs : List D → List PyData
  | [] => []
  | d :: ds => pyX d :: pyXs ds
end
mutual
def okX : D → Prop
  | .non => True
  | .bl _ => True
  | .int i => i.natAbs.log2 < 1920
  | .str z => z.cps.all (· < 0x110000) = true
  | .tup ds => okXs ds
  | .lst ds => okXs ds
  | .dic ks ds => (∀ k ∈ ks, keyOk k) ∧ ks.length = ds.length ∧ okXs ds
  | _ => False
def okXs : List D → Prop
  | [] => True
  | d :: ds => okX d ∧ okXs ds
end
mutual
def bulkX : D → Nat
  | .str z => z.cps.size
  | .tup ds => bulkXs ds
  | .lst ds => bulkXs ds
  | .dic ks ds => (ks.map keyBulk).sum + ks.length + bulkXs ds
  | _ => 0
def bulkXs : List D → Nat
  | [] => 0
  | d :: ds => bulkX d + 1 + bulkXs ds
end
mutual
def deepX : D → Nat
  | .tup ds => deepXs ds + 1
  | .lst ds => deepXs ds + 1
  | .dic _ ds => deepXs ds + 1
  | _ => 0
def deepXs : List D → Nat
  | [] => 0
  | d :: ds => max (deepX d) (deepXs ds)
end
theorem pyXs_len : ∀ ds : List D, (pyXs ds).length = ds.length
  | [] => by rw [pyXs]; rfl
  | d :: ds => by rw [pyXs, List.length_cons, List.length_cons, pyXs_len ds]
structure ShX (prog : Program) (w : World) (h : Heap) (u : Value) (p : PyData) : Prop where
  ex : ∃ as bs, Reads h u p as ∧ ReadAtMost h p.depth bs ∧ ReprK prog w bs h p.depth u p.shown
structure ShXs (prog : Program) (w : World) (h : Heap) (us : List Value) (ps : List PyData) : Prop where
  ex : ∃ as bs, ReadsAll h us ps as ∧ ReadAtMost h (PyData.depthAll ps) bs ∧ ReprAllK prog w bs h (PyData.depthAll ps) us (PyData.shownAll ps)
section
variable {prog : Program} {w : World} {h : Heap}
theorem rak_len {bs : List Addr} {n : Nat} : ∀ {us : List Value} {ts : List Str}, ReprAllK prog w bs h n us ts → ts.length = us.length
  | _, _, .nil => rfl
  | _, _, .cons _ r => congrArg (· + 1) (rak_len r)
theorem ShXs.nil : ShXs prog w h [] [] := ⟨[], [], .nil, (fun _ m => nomatch m), by rw [PyData.shownAll]; exact .nil⟩
theorem ShX.cons {u : Value} {us : List Value} {p : PyData} {ps : List PyData} (a : ShX prog w h u p) (b : ShXs prog w h us ps) : ShXs prog w h (u :: us) (p :: ps) := by
  obtain ⟨as, bs, r, m, k⟩ := a.ex
  obtain ⟨as2, bs2, r2, m2, k2⟩ := b.ex
  have le1 : p.depth ≤ PyData.depthAll (p :: ps) := by rw [PyData.depthAll]; exact Nat.le_max_left _ _
  have le2 : PyData.depthAll ps ≤ PyData.depthAll (p :: ps) := by rw [PyData.depthAll]; exact Nat.le_max_right _ _
  refine ⟨_, bs ++ bs2, .cons r r2, (m.mono le1).append (m2.mono le2), ?_⟩
  rw [PyData.shownAll]
  exact .cons ((k.more fun _ q => List.mem_append_left _ q).level_le le1) (k2.more_le (fun _ q => List.mem_append_right _ q) le2)
theorem ShXs.tup {a : Addr} {o : Obj} {its : Array Value} {n : Nat} {ps : List PyData} (s : ShXs prog w h its.toList ps) (h1 : h.get? a = some o) (h2 : o.cls = .type "tuple") (h3 : o.data = .seq its n) : ShX prog w h (.ref a) (.tuple ps) := by
  obtain ⟨as, bs, r, m, k⟩ := s.ex
  have rd : Reads h (.ref a) (.tuple ps) _ := .tuple h1 h2 h3 r
  have out : a ∉ bs := not_mem_of_deeper rd (by rw [PyData.depth]; exact Nat.lt_succ_self _) m
  refine ⟨_, a :: bs, rd, .cons rd (by rw [PyData.depth]; exact Nat.le_succ _) m, ?_⟩
  rw [PyData.depth, PyData.shown]
  exact .tuple h1 h2 h3 out k
theorem ShXs.lst {a : Addr} {o : Obj} {its : Array Value} {n : Nat} {ps : List PyData} (s : ShXs prog w h its.toList ps) (h1 : h.get? a = some o) (h2 : o.cls = .type "list") (h3 : o.data = .seq its n) : ShX prog w h (.ref a) (.list ps) := by
  obtain ⟨as, bs, r, m, k⟩ := s.ex
  have rd : Reads h (.ref a) (.list ps) _ := .list h1 h2 h3 r
  have out : a ∉ bs := not_mem_of_deeper rd (by rw [PyData.depth]; exact Nat.lt_succ_self _) m
  refine ⟨_, a :: bs, rd, .cons rd (by rw [PyData.depth]; exact Nat.le_succ _) m, ?_⟩
  rw [PyData.depth, PyData.shown]
  obtain ⟨l⟩ := its
  cases l with
  | nil =>
    have r' : ReadsAll h [] ps as := r
    cases r'
    rw [PyData.shownAll, listText_nil]
    exact .listEmpty h1 h2 h3
  | cons x l => exact .list h1 h2 h3 out (rak_len k) fun i y e => k.item i y (by simpa using e)
theorem ShXs.dic {a : Addr} {o : Obj} {es : Array DictEntry} {n : Nat} {ks : List Key} {ps : List PyData} (h1 : h.get? a = some o) (h2 : o.cls = .type "dict") (h3 : o.data = .dict es n) (hs : (a == sysModules) = false)
    (hk : ShXs prog w h (es.toList.map (·.key)) (ks.map keyP)) (hv : ShXs prog w h (es.toList.map (·.val)) ps) (hl : ks.length = ps.length) :
    ∃ as bs, Reads h (.ref a) (.dict ((ks.map keyP).zip ps)) as ∧ ReadAtMost h (PyData.depthKv ((ks.map keyP).zip ps)) bs ∧ a ∉ bs ∧ ReprEntriesK prog w bs h (PyData.depthKv ((ks.map keyP).zip ps)) es.toList (PyData.shownKv ((ks.map keyP).zip ps)) := by
  obtain ⟨as, bs, r, m, k⟩ := hk.ex
  obtain ⟨as2, bs2, r2, m2, k2⟩ := hv.ex
  have e1 : ((ks.map keyP).zip ps).map (·.1) = ks.map keyP := List.map_fst_zip (by rw [List.length_map]; omega)
  have e2 : ((ks.map keyP).zip ps).map (·.2) = ps := List.map_snd_zip (by rw [List.length_map]; omega)
  have l1 := PyData.depthAll_keys_le ((ks.map keyP).zip ps)
  have l2 := PyData.depthAll_vals_le ((ks.map keyP).zip ps)
  rw [e1] at l1
  rw [e2] at l2
  have rd : Reads h (.ref a) (.dict ((ks.map keyP).zip ps)) _ := .dict h1 h2 h3 (by rw [e1]; exact r) (by rw [e2]; exact r2)
  have hb : ReadAtMost h (PyData.depthKv ((ks.map keyP).zip ps)) (bs ++ bs2) := (m.mono l1).append (m2.mono l2)
  have out : a ∉ bs ++ bs2 := not_mem_of_deeper rd (by rw [PyData.depth]; exact Nat.lt_succ_self _) hb
  refine ⟨_, bs ++ bs2, rd, hb, out, ?_⟩
  rw [PyData.shownKv_eq, e1, e2]
  exact ReprEntriesK.of_two es.toList _ _ (k.more_le (fun _ q => List.mem_append_left _ q) l1) (k2.more_le (fun _ q => List.mem_append_right _ q) l2)
theorem ShXs.dicS {a : Addr} {o : Obj} {es : Array DictEntry} {n : Nat} {ks : List Key} {ps : List PyData} (h1 : h.get? a = some o) (h2 : o.cls = .type "dict") (h3 : o.data = .dict es n) (hs : (a == sysModules) = false)
    (hk : ShXs prog w h (es.toList.map (·.key)) (ks.map keyP)) (hv : ShXs prog w h (es.toList.map (·.val)) ps) (hl : ks.length = ps.length) : ShX prog w h (.ref a) (.dict ((ks.map keyP).zip ps)) := by
  obtain ⟨as, bs, rd, m, out, k⟩ := ShXs.dic h1 h2 h3 hs hk hv hl
  refine ⟨_, a :: bs, rd, .cons rd (by rw [PyData.depth]; exact Nat.le_succ _) m, ?_⟩
  rw [PyData.depth, PyData.shown]
  exact ReprK.dict h1 h2 h3 hs out k
theorem shKeys {X : Program} {w : World} : ∀ {es : List DictEntry} {kvs : List (Key × Value)}, Pairs (mixKind X w) es kvs → (∀ k ∈ kvs.map (·.1), keyOk k) → (∀ t ∈ PyData.shownAll ((kvs.map (·.1)).map keyP), t.length ≤ sizeLine) →
    ShXs prog w h (es.map (·.key)) ((kvs.map (·.1)).map keyP)
  | _, _, .nil, _, _ => .nil
  | e :: es, (k, v) :: kvs, .cons h1 _ ps, ok, hz => by
    rw [List.map_cons, List.map_cons, PyData.shownAll] at hz
    rw [List.map_cons, List.map_cons, List.map_cons]
    have ok1 : keyOk k := ok k List.mem_cons_self
    refine ShX.cons ?_ (shKeys ps (fun x m => ok x (List.mem_cons_of_mem _ m)) fun t m => hz t (List.mem_cons_of_mem _ m))
    have hz1 := hz _ List.mem_cons_self
    rcases keyIs_shape h1 with ⟨i, t, e1, e2⟩ | ⟨x, t, e1, e2⟩
    · rw [e2]
      obtain rfl : k = .inl i := e1
      exact ⟨_, [], .int i t, (fun _ m => nomatch m), by rw [keyP, PyData.shown]; exact .of_is (ReprIs.int t ok1) _ _ _⟩
    · rw [e2]
      obtain rfl : k = .inr x := e1
      rw [keyP, PyData.shown] at hz1
      exact ⟨_, [], .str x t, (fun _ m => nomatch m), by rw [keyP, PyData.shown]; exact .of_is (ReprIs.str x t hz1) _ _ _⟩
theorem pairs_vals {X : Program} {w : World} : ∀ {es : List DictEntry} {kvs : List (Key × Value)}, Pairs (mixKind X w) es kvs → es.map (·.val) = kvs.map (·.2)
  | _, _, .nil => rfl
  | e :: es, (k, v) :: kvs, .cons _ h2 ps => by rw [List.map_cons, List.map_cons, pairs_vals ps, show e.val = v from h2]
end
section
variable {X : Cx} {pins : List (Addr × Obj)} {σ : L2.St} {H : Hp} {s : Shared} {N : Addr → Prop}
theorem kv_keys : ∀ {ks : List Key} {vs : List V} {us : List (Key × Value)}, ks.length = vs.length → KV (ks.zip vs) us → us.map (·.1) = ks ∧ Vals vs (us.map (·.2))
  | [], [], us, _, r => by
    unfold KV at r
    cases r
    exact ⟨rfl, .nil⟩
  | k :: ks, v :: vs, us, hl, r => by
    unfold KV at r
    rw [List.zip_cons_cons] at r
    cases r with
    | @cons _ b _ us h t =>
    obtain ⟨a1, a2⟩ := kv_keys (us := us) (Nat.succ.inj hl) (by unfold KV; exact t)
    exact ⟨by rw [List.map_cons, a1, ← h.1], by rw [List.map_cons]; exact .cons h.2 a2⟩
  | [], _ :: _, _, hl, _ => nomatch hl
  | _ :: _, [], _, hl, _ => nomatch hl
theorem dic_there {a : Addr} {o : Obj} {ks : List Key} {vs : List V} (I : Inv X pins σ H s) (hl : ks.length = vs.length) (e : H a = some (.frz o (.dK (ks.zip vs)))) :
    ∃ ob es n us, s.heap.get? a = some ob ∧ ob.cls = .type "dict" ∧ ob.data = .dict es n ∧ (a == sysModules) = false ∧ Pairs (mixKind X.prog X.w) es.toList us ∧ us.map (·.1) = ks ∧ Vals vs (us.map (·.2)) := by
  obtain ⟨_, ns, us, rel, ob, es, ep, ho, hx, hd, _, ps, _⟩ := dk_rd I.hok (.inr ⟨o, e⟩)
  obtain ⟨a1, a2⟩ := kv_keys hl rel
  exact ⟨ob, es, ep, us, ho, hx.1, hd, ns, ps, a1, a2⟩
theorem reps_len {K : PySem.W.Frag} {N : Addr → Prop} {H : Hp} : ∀ {ds : List D} {vs : List V}, Reps K N H ds vs → ds.length = vs.length
  | [], vs, r => by rw [Reps] at r; subst r; rfl
  | d :: ds, vs, r => by
    rw [Reps] at r
    obtain ⟨v, vr, rfl, _, r2⟩ := r
    rw [List.length_cons, List.length_cons, reps_len r2]
theorem kv_key_le {ks : List Key} {ps : List PyData} (hl : ks.length = ps.length) (hz : (dictText (PyData.shownKv ((ks.map keyP).zip ps))).length ≤ sizeLine) :
    (∀ t ∈ PyData.shownAll (ks.map keyP), t.length ≤ sizeLine) ∧ ∀ t ∈ PyData.shownAll ps, t.length ≤ sizeLine := by
  have e1 : ((ks.map keyP).zip ps).map (·.1) = ks.map keyP := List.map_fst_zip (by rw [List.length_map]; omega)
  have e2 : ((ks.map keyP).zip ps).map (·.2) = ps := List.map_snd_zip (by rw [List.length_map]; omega)
  constructor
  · intro t m
    rw [← e1] at m
    obtain ⟨p, hp, hl⟩ := PyData.shownKv_key_le _ t m
    exact Nat.le_trans hl (Nat.le_trans (dictText_mem_le hp) hz)
  · intro t m
    rw [← e2] at m
    obtain ⟨p, hp, hl⟩ := PyData.shownKv_val_le _ t m
    exact Nat.le_trans hl (Nat.le_trans (dictText_mem_le hp) hz)
mutual
theorem shX (I : Inv X pins σ H s) : ∀ (d : D) (v : V) (u : Value), okX d → (pyX d).shown.length ≤ sizeLine → Rep X.K N H d v → RelV v u → ShX X.prog X.w s.heap u (pyX d)
  | .non, v, u, _, _, r, q => by
    rw [Rep] at r
    subst r
    obtain rfl := (show u = _ from q)
    exact ⟨_, [], .none, (fun _ m => nomatch m), by rw [pyX, PyData.shown]; exact .of_is ReprIs.none _ _ _⟩
  | .bl b, v, u, _, _, r, q => by
    rw [Rep] at r
    subst r
    obtain rfl := (show u = _ from q)
    exact ⟨_, [], .bool b, (fun _ m => nomatch m), by rw [pyX, PyData.shown]; exact .of_is (ReprIs.bool b) _ _ _⟩
  | .int i, v, u, ok, _, r, q => by
    rw [Rep] at r
    subst r
    obtain ⟨t, rfl⟩ := q
    rw [okX] at ok
    exact ⟨_, [], .int i t, (fun _ m => nomatch m), by rw [pyX, PyData.shown]; exact .of_is (ReprIs.int t ok) _ _ _⟩
  | .str z, v, u, ok, hz, r, q => by
    rw [Rep] at r
    subst r
    obtain ⟨t, rfl⟩ := q
    rw [pyX, PyData.shown] at hz
    exact ⟨_, [], .str z t, (fun _ m => nomatch m), by rw [pyX, PyData.shown]; exact .of_is (ReprIs.str z t hz) _ _ _⟩
  | .tup ds, v, u, ok, hz, r, q => by
    rw [Rep] at r
    obtain ⟨a, vs, rfl, h1, h2⟩ := r
    obtain rfl := (show u = Value.ref a from q)
    obtain ⟨its, rv, ⟨o, ho, hc, n, hd⟩, _⟩ := I.tuple h1.sq
    rw [okX] at ok
    rw [pyX, PyData.shown] at hz
    rw [pyX]
    exact (shXs I ds vs its ok (fun t m => Nat.le_trans (tupleText_mem_le m) hz) h2 rv).tup ho hc hd
  | .lst ds, v, u, ok, hz, r, q => by
    rw [Rep] at r
    obtain ⟨a, vs, rfl, _, h1, h2⟩ := r
    obtain rfl := (show u = Value.ref a from q)
    obtain ⟨its, rv, ⟨o, n, ho, hc, _, hd⟩, _⟩ := I.list (.inl (.inl h1))
    rw [okX] at ok
    rw [pyX, PyData.shown] at hz
    rw [pyX]
    exact (shXs I ds vs its ok (fun t m => Nat.le_trans (listText_mem_le m) hz) h2 rv).lst ho hc hd
  | .dic ks ds, v, u, ok, hz, r, q => by
    rw [Rep] at r
    obtain ⟨a, o, vs, rfl, _, h1, hl, h2⟩ := r
    obtain rfl := (show u = Value.ref a from q)
    rw [okX] at ok
    rw [pyX, PyData.shown] at hz
    rw [pyX]
    obtain ⟨ob, es, n, us, e1, e2, e3, e4, ps, ek, ev⟩ := dic_there I (hl.trans (reps_len h2)) h1
    have hl2 : ks.length = (pyXs ds).length := hl.trans (pyXs_len ds).symm
    obtain ⟨hz1, hz2⟩ := kv_key_le hl2 hz
    refine ShXs.dicS e1 e2 e3 e4 ?_ (shXs I ds vs _ ok.2.2 hz2 h2 ?_) hl2
    · have := shKeys (prog := X.prog) (w := X.w) (h := s.heap) ps (by rw [ek]; exact ok.1) (by rw [ek]; exact hz1)
      rw [ek] at this
      exact this
    · rw [pairs_vals ps]
      exact ev
  | .adr _, _, _, ok, _, _, _ | .ty _, _, _, ok, _, _, _ | .rol _, _, _, ok, _, _, _ | .ins _ _ _, _, _, ok, _, _, _ | .exn _ _ _, _, _, ok, _, _, _ => by simp [okX] at ok
theorem shXs (I : Inv X pins σ H s) : ∀ (ds : List D) (vs : List V) (us : List Value), okXs ds → (∀ t ∈ PyData.shownAll (pyXs ds), t.length ≤ sizeLine) → Reps X.K N H ds vs → Vals vs us → ShXs X.prog X.w s.heap us (pyXs ds)
  | [], vs, us, _, _, r, q => by
    rw [Reps] at r
    subst r
    cases q
    rw [pyXs]
    exact .nil
  | d :: ds, vs, us, ok, hz, r, q => by
    rw [Reps] at r
    obtain ⟨v, vr, rfl, r1, r2⟩ := r
    cases q with
    | cons q1 q2 =>
    rw [okXs] at ok
    rw [pyXs, PyData.shownAll] at hz
    rw [pyXs]
    exact (shX I d v _ ok.1 (hz _ List.mem_cons_self) r1 q1).cons (shXs I ds vr _ ok.2 (fun t m => hz t (List.mem_cons_of_mem _ m)) r2 q2)
end
end
def reprXD : FnD
  | [d], k => okX d ∧ (pyX d).shown.length ≤ sizeLine ∧ (pyX d).depth ≤ 64 ∧ k (.str (pyX d).shown)
  | _, _ => False
section
variable {X : Cx} {pins : List (Addr × Obj)} {σ : L2.St} {H : Hp} {s : Shared} {Q : VK} {a : Addr} {o : Obj} {its : Array Value} {n : Nat} {ps : List PyData}
theorem top_tup (hg : X.A.guards = some []) (hu : X.A.units + 150 < cLine) (I : Inv X pins σ H s) (k : ShXs X.prog X.w s.heap its.toList ps) (h1 : s.heap.get? a = some o) (h2 : o.cls = .type "tuple") (h3 : o.data = .seq its n) (hz : (tupleText (PyData.shownAll ps)).length ≤ sizeLine) (hd : PyData.depthAll ps + 1 ≤ 64)
    (q : Q (.str (tupleText (PyData.shownAll ps))) H) : wpAny (model X.prog X.w) X.A (call (.builtin "repr") [.ref a]) (EP X pins σ Q) X.xe s := by
  obtain ⟨as, bs, r, m, kk⟩ := k.ex
  have rd : Reads s.heap (.ref a) (.tuple ps) _ := .tuple h1 h2 h3 r
  have out : a ∉ bs := not_mem_of_deeper rd (by rw [PyData.depth]; exact Nat.lt_succ_self _) m
  exact call_repr_slot (by omega) ⟨o, h1, h2⟩ F.slot_tuple_repr (call_tuple_reprK (A := X.A.in1) h1 h2 h3 out kk hg (fun b _ => Clear.nil b) (by show X.A.units + 1 + _ < cLine; omega) (fun _ _ e => e)
    (fun h' u tk hk => ⟨_, _, rfl, .str _, H, I.kept hk, ⟨_, rfl⟩, q⟩) hz)
theorem top_lst (hg : X.A.guards = some []) (hu : X.A.units + 150 < cLine) (I : Inv X pins σ H s) (k : ShXs X.prog X.w s.heap its.toList ps) (h1 : s.heap.get? a = some o) (h2 : o.cls = .type "list") (h3 : o.data = .seq its n) (hz : (listText (PyData.shownAll ps)).length ≤ sizeLine) (hd : PyData.depthAll ps + 1 ≤ 64)
    (q : Q (.str (listText (PyData.shownAll ps))) H) : wpAny (model X.prog X.w) X.A (call (.builtin "repr") [.ref a]) (EP X pins σ Q) X.xe s := by
  obtain ⟨as, bs, r, m, kk⟩ := k.ex
  have rd : Reads s.heap (.ref a) (.list ps) _ := .list h1 h2 h3 r
  have out : a ∉ bs := not_mem_of_deeper rd (by rw [PyData.depth]; exact Nat.lt_succ_self _) m
  obtain ⟨l⟩ := its
  cases l with
  | nil =>
    have r' : ReadsAll s.heap [] ps as := r
    cases r'
    rw [PyData.shownAll, listText_nil] at q
    exact call_repr_slot (by omega) ⟨o, h1, h2⟩ F.slot_list_repr.toG (call_list_repr_empty (A := X.A.in1) ⟨o, h1, h2⟩ h1 h3 ⟨_, _, rfl, .str _, H, I.kept (fun _ _ e => e), ⟨_, rfl⟩, q⟩)
  | cons x l =>
    exact call_repr_slot (by omega) ⟨o, h1, h2⟩ F.slot_list_repr.toG (call_list_reprK (A := X.A.in1) h1 h2 h3 out (rak_len kk) (fun i y e => kk.item i y (by simpa using e)) hg (fun b _ => Clear.nil b) (by show X.A.units + 1 + _ < cLine; omega) (fun _ _ e => e)
      (fun h' u tk hk => ⟨_, _, rfl, .str _, H, I.kept hk, ⟨_, rfl⟩, q⟩) hz)
theorem top_dic {es : Array DictEntry} {ks : List Key} (hg : X.A.guards = some []) (hu : X.A.units + 150 < cLine) (I : Inv X pins σ H s) (h1 : s.heap.get? a = some o) (h2 : o.cls = .type "dict") (h3 : o.data = .dict es n) (hs : (a == sysModules) = false)
    (hk : ShXs X.prog X.w s.heap (es.toList.map (·.key)) (ks.map keyP)) (hv : ShXs X.prog X.w s.heap (es.toList.map (·.val)) ps) (hl : ks.length = ps.length)
    (hz : (dictText (PyData.shownKv ((ks.map keyP).zip ps))).length ≤ sizeLine) (hd : PyData.depthKv ((ks.map keyP).zip ps) + 1 ≤ 64)
    (q : Q (.str (dictText (PyData.shownKv ((ks.map keyP).zip ps)))) H) : wpAny (model X.prog X.w) X.A (call (.builtin "repr") [.ref a]) (EP X pins σ Q) X.xe s := by
  obtain ⟨as, bs, rd, m, out, k⟩ := ShXs.dic h1 h2 h3 hs hk hv hl
  exact call_repr_slot (by omega) ⟨o, h1, h2⟩ F.slot_dict_repr (call_dict_reprK (A := X.A.in1) h1 h2 h3 hs out k hg (fun b _ => Clear.nil b) (by show X.A.units + 1 + _ < cLine; omega) (fun _ _ e => e)
    (fun h' u tk hk => ⟨_, _, rfl, .str _, H, I.kept hk, ⟨_, rfl⟩, q⟩) hz)
theorem cd_reprX (hg : X.A.guards = some []) (hu : X.A.units + 150 < cLine) : CallR X (.builtin "repr") (CallU X.K reprXD) := by
  rintro pins s σ H xs us Q I r ⟨N, z, ds, R, al, rp, h, k⟩
  match ds, h, rp with
  | [d], h, rp =>
    obtain ⟨v, rfl, r1⟩ := rp.one
    obtain ⟨u, rfl, ru⟩ := vals1 r
    obtain ⟨ok, hz, hd, h⟩ := h
    have fin := k _ _ H h same0 .s
    have plain : ∀ p, dat d = some p → pyX d = p → p.showable = true → SeqAt.shaped p = true → wpAny (model X.prog X.w) X.A (call (.builtin "repr") [u]) (EP X pins σ Q) X.xe s := fun p e e2 h1 h2 => by
      rw [e2] at hz fin
      exact call_repr_any hg hu pins s σ H _ _ Q I r ⟨v, p, rfl, datP_ok r1 e, h1, h2, hz, fin⟩
    cases d with
    | non => exact plain .none (by rw [dat]) (by rw [pyX]) rfl rfl
    | bl b => exact plain (.bool b) (by rw [dat]) (by rw [pyX]) rfl rfl
    | int i =>
      rw [okX] at ok
      exact plain (.int i) (by rw [dat]) (by rw [pyX]) (by simpa only [PyData.showable, decide_eq_true_eq] using ok) rfl
    | str x =>
      rw [okX] at ok
      exact plain (.str x) (by rw [dat]) (by rw [pyX]) rfl (by unfold SeqAt.shaped; rw [PyData.canLay0, PyData.depth]; simpa only [PyData.strOk, Bool.and_true, decide_eq_true_eq, Nat.zero_le, decide_true] using ok)
    | tup ds =>
      obtain ⟨b, vs, rfl, h1, h2⟩ := r1.tup
      obtain rfl := (show u = Value.ref b from ru)
      obtain ⟨its, rv, ⟨o, ho, hc, n, hdd⟩, _⟩ := I.tuple h1
      rw [okX] at ok
      rw [pyX, PyData.shown] at hz fin
      rw [pyX, PyData.depth] at hd
      exact top_tup hg hu I (shXs I ds vs its ok (fun t m => Nat.le_trans (tupleText_mem_le m) hz) h2 rv) ho hc hdd hz hd fin
    | lst ds =>
      obtain ⟨b, vs, rfl, h1, h2⟩ := r1.lst
      obtain rfl := (show u = Value.ref b from ru)
      obtain ⟨its, rv, ⟨o, n, ho, hc, _, hdd⟩, _⟩ := I.list (.inl (.inl h1))
      rw [okX] at ok
      rw [pyX, PyData.shown] at hz fin
      rw [pyX, PyData.depth] at hd
      exact top_lst hg hu I (shXs I ds vs its ok (fun t m => Nat.le_trans (listText_mem_le m) hz) h2 rv) ho hc hdd hz hd fin
    | dic ks ds =>
      obtain ⟨b, o, vs, rfl, h1, hl, h2⟩ := r1.dic
      obtain rfl := (show u = Value.ref b from ru)
      rw [okX] at ok
      rw [pyX, PyData.shown] at hz fin
      rw [pyX, PyData.depth] at hd
      obtain ⟨ob, es, n, us, e1, e2, e3, e4, ps, ek, ev⟩ := dic_there I (hl.trans (reps_len h2)) h1
      have hl2 : ks.length = (pyXs ds).length := hl.trans (pyXs_len ds).symm
      obtain ⟨hz1, hz2⟩ := kv_key_le hl2 hz
      refine top_dic hg hu I e1 e2 e3 e4 ?_ (shXs I ds vs _ ok.2.2 hz2 h2 ?_) hl2 hz hd fin
      · have := shKeys (prog := X.prog) (w := X.w) (h := s.heap) ps (by rw [ek]; exact ok.1) (by rw [ek]; exact hz1)
        rw [ek] at this
        exact this
      · rw [pairs_vals ps]
        exact ev
    | _ => simp [okX] at ok
end
/-! how long what is shown -/
theorem kv_small : ∀ (ks : List Key) (ps : List PyData), (∀ k ∈ ks, keyOk k) → ks.length = ps.length → PyData.leavesShortAll 2000 ps = true →
    PyData.leavesShortKv 2000 ((ks.map keyP).zip ps) = true ∧ PyData.bulkKv ((ks.map keyP).zip ps) ≤ (ks.map keyBulk).sum + ks.length + PyData.bulkAll ps ∧ PyData.depthKv ((ks.map keyP).zip ps) ≤ PyData.depthAll ps
  | [], [], _, _, _ => ⟨rfl, Nat.zero_le _, Nat.zero_le _⟩
  | k :: ks, p :: ps, h, hl, hs => by
    rw [PyData.leavesShortAll, Bool.and_eq_true] at hs
    obtain ⟨a, b, c⟩ := kv_small ks ps (fun x m => h x (List.mem_cons_of_mem _ m)) (Nat.succ.inj hl) hs.2
    have hk := h k List.mem_cons_self
    have q : (keyP k).leavesShort 2000 = true ∧ (keyP k).bulk ≤ keyBulk k ∧ (keyP k).depth = 0 := by
      cases k with
      | inl i => exact ⟨int_short hk, Nat.zero_le _, rfl⟩
      | inr z =>
        refine ⟨?_, Nat.le_refl _, rfl⟩
        rw [keyP, PyData.leavesShort, List.all_eq_true]
        intro c hc
        have := (Array.all_eq_true_iff_forall_mem.mp hk) c (Array.mem_toList_iff.mp hc)
        simp only [decide_eq_true_eq] at this ⊢
        exact Nat.lt_trans this (by decide)
    rw [List.map_cons, List.zip_cons_cons, PyData.leavesShortKv, PyData.bulkKv, PyData.bulkAll, PyData.depthKv, PyData.depthAll, List.map_cons, List.sum_cons, List.length_cons]
    refine ⟨by rw [q.1, hs.1, a]; rfl, by omega, by rw [q.2.2]; omega⟩
  | [], _ :: _, _, hl, _ => nomatch hl
  | _ :: _, [], _, hl, _ => nomatch hl
mutual
theorem pyX_small : ∀ d : D, okX d → (pyX d).leavesShort 2000 = true ∧ (pyX d).bulk ≤ bulkX d ∧ (pyX d).depth ≤ deepX d + 1
  | .non, _ => by rw [pyX]; exact ⟨rfl, Nat.zero_le _, Nat.zero_le _⟩
  | .bl b, _ => by rw [pyX]; exact ⟨rfl, Nat.zero_le _, Nat.zero_le _⟩
  | .int i, h => by
    rw [okX] at h
    rw [pyX]
    exact ⟨int_short h, Nat.zero_le _, Nat.zero_le _⟩
  | .str z, h => by
    rw [okX] at h
    rw [pyX, bulkX]
    refine ⟨?_, Nat.le_refl _, Nat.zero_le _⟩
    rw [PyData.leavesShort, List.all_eq_true]
    intro c hc
    have := (Array.all_eq_true_iff_forall_mem.mp h) c (Array.mem_toList_iff.mp hc)
    simp only [decide_eq_true_eq] at this ⊢
    exact Nat.lt_trans this (by decide)
  | .tup ds, h => by
    rw [okX] at h
    obtain ⟨a, b, c⟩ := pyXs_small ds h
    rw [pyX, bulkX, deepX, PyData.leavesShort, PyData.bulk, PyData.depth]
    exact ⟨a, b, by omega⟩
  | .lst ds, h => by
    rw [okX] at h
    obtain ⟨a, b, c⟩ := pyXs_small ds h
    rw [pyX, bulkX, deepX, PyData.leavesShort, PyData.bulk, PyData.depth]
    exact ⟨a, b, by omega⟩
  | .dic ks ds, h => by
    rw [okX] at h
    obtain ⟨h1, h2, h3⟩ := h
    obtain ⟨a, b, c⟩ := pyXs_small ds h3
    rw [pyX, bulkX, deepX, PyData.leavesShort, PyData.bulk, PyData.depth]
    obtain ⟨a2, b2, c2⟩ := kv_small ks (pyXs ds) h1 (h2.trans (pyXs_len ds).symm) a
    exact ⟨a2, by omega, by omega⟩
  | .adr _, h | .ty _, h | .rol _, h | .ins _ _ _, h | .exn _ _ _, h => by simp [okX] at h
theorem pyXs_small : ∀ ds : List D, okXs ds → PyData.leavesShortAll 2000 (pyXs ds) = true ∧ PyData.bulkAll (pyXs ds) ≤ bulkXs ds ∧ PyData.depthAll (pyXs ds) ≤ deepXs ds + 1
  | [], _ => by rw [pyXs]; exact ⟨rfl, Nat.zero_le _, Nat.zero_le _⟩
  | d :: ds, h => by
    rw [okXs] at h
    obtain ⟨a, b, c⟩ := pyX_small d h.1
    obtain ⟨a2, b2, c2⟩ := pyXs_small ds h.2
    rw [pyXs, bulkXs, deepXs, PyData.leavesShortAll, PyData.bulkAll, PyData.depthAll, a, a2]
    exact ⟨rfl, by omega, by omega⟩
end
theorem use_reprX {d : D} {k : D → Prop} (h : okX d) (hb : bulkX d ≤ 8000) (hd : deepX d ≤ 60) (q : k (.str (pyX d).shown)) : reprXD [d] k := by
  obtain ⟨a, b, c⟩ := pyX_small d h
  exact ⟨h, shown_small a (by omega), by omega, q⟩
end Lay

set_option Elab.async false
set_option linter.all false
set_option maxRecDepth 100000
set_option maxHeartbeats 2000000
namespace Lay
open PySem PySem.Spec PyProof.Rows L2 SeqAt
open AutoSeq1 (wpAny_loadPart')
open MeetsSeq MeetsSeq2 MeetsSeq3 SeqRoads2
/-! ### a dict display as data that is changed no more -/
def dDicF (ks : List Key) (t : DX (List D)) : DX D := fun ρ z R RX => t ρ z (fun ds ρ' z' => R (.dic ks ds) ρ' z') RX
theorem ap_dDicF (ks : List Key) (t : DX (List D)) (R : D → List Sl → Z → Prop) (RX : KX) (s0 : Sl) (ρ0 : List Sl) (z : Z) : dDicF ks t (s0 :: ρ0) z R RX = t (s0 :: ρ0) z (fun ds ρ' z' => R (.dic ks ds) ρ' z') RX := rfl
section
variable {X : Cx} {W : WX} {e o i a b : Expr} {es : List Expr} {st : Stmt} {pos : Pos}
/-! ### o.append(e), o a cell that is a list -/
def mapp : D → D → Z → (Z → Prop) → Prop
  | .adr a, d, z, k => ∃ ds, z.m a = some (.lst ds) ∧ ds.length < sizeLine ∧ k (z.put a (.lst (ds ++ [d])))
  | _, _, _, _ => False
theorem e_mapp (a : Addr) (d : D) (z : Z) (k : Z → Prop) : mapp (.adr a) d z k = ∃ ds, z.m a = some (.lst ds) ∧ ds.length < sizeLine ∧ k (z.put a (.lst (ds ++ [d]))) := rfl
def dAppM (to t : DX D) : DTS := fun R ρ z => to ρ z (fun r ρ1 z1 => ∃ a ds0, r = .adr a ∧ z1.m a = some (.lst ds0) ∧ t ρ1 z1 (fun d ρ' z' => mapp (.adr a) d z' fun z2 => R.nx ρ' z2) R.ex) R.ex
theorem ap_dAppM (to t : DX D) (R : DEnds) (s0 : Sl) (ρ0 : List Sl) (z : Z) : dAppM to t R (s0 :: ρ0) z = to (s0 :: ρ0) z (fun r ρ1 z1 => ∃ a ds0, r = .adr a ∧ z1.m a = some (.lst ds0) ∧ t ρ1 z1 (fun d ρ' z' => mapp (.adr a) d z' fun z2 => R.nx ρ' z2) R.ex) R.ex := rfl
/-! ### behind a statement: the cell that a name holds is changed no more -/
def dThenFrz (i : Nat) (t : DTS) : DTS := fun R ρ z => t { R with nx := fun ρ z => ∃ a ds, ρ[i]? = some (.val (.adr a)) ∧ z.m a = some (.lst ds) ∧ R.nx (ρ.set i (.val (.lst ds))) (z.drop a) } ρ z
theorem ap_dThenFrz (i : Nat) (t : DTS) (R : DEnds) (s0 : Sl) (ρ0 : List Sl) (z : Z) : dThenFrz i t R (s0 :: ρ0) z = t { R with nx := fun ρ z => ∃ a ds, ρ[i]? = some (.val (.adr a)) ∧ z.m a = some (.lst ds) ∧ R.nx (ρ.set i (.val (.lst ds))) (z.drop a) } (s0 :: ρ0) z := rfl
end
/-! ### x in t, t a list with own instances: the list is read anew for each item -/
section
variable {prog : Program} {w : World} {A : Around} {E : Value → Shared → Prop} {s : Shared}
/-- wherever G holds, l is a list of N things, and == of the one at i with x tells e i -/
def Looks (prog : Program) (w : World) (A : Around) (E : Value → Shared → Prop) (l : Addr) (x : Value) (N : Nat) (e : Nat → Bool) (G : Shared → Prop) : Prop :=
  ∀ s', G s' → ∃ items : Array Value, s'.heap.IsList l items ∧ items.size = N ∧ ∀ i y, items[i]? = some y → ∀ Q : Bool → Shared → Prop, (∀ s2, G s2 → Q (e i) s2) → wpAny (model prog w) A (eqBool y x) Q E s'
theorem any_from (e : Nat → Bool) (i n : Nat) : (List.range' i (n + 1)).any e = (e i || (List.range' (i + 1) n).any e) := by rw [List.range'_succ, List.any_cons]
theorem list_loop {l : Addr} {x : Value} {N : Nat} {e : Nat → Bool} {G : Shared → Prop} {Q : Value → Shared → Prop} (hG : Looks prog w A.in1 E l x N e G) : ∀ (n i : Nat) (s : Shared), N - i = n → G s →
    (∀ s', G s' → Q (.bool ((List.range' i n).any e)) s') → codeAny (model prog w) A (.builtin "list.__contains__.loop" ⟨[.ref l, x, rawInt i], []⟩) (wants Q E) s
  | 0, i, s, hn, g, q => codeAny_builtin entry_contains_loop (by
    obtain ⟨items, ⟨⟨cls, dd, data, sl⟩, ho, hc, m, hd⟩, hsz, _⟩ := hG s g
    simp only at hc hd
    subst hc hd
    have e2 : items[((i : Nat) : Int).toNat]? = none := Array.getElem?_eq_none (by simp; omega)
    rw [Around.under_plainId plain_contains_loop _]
    have told := q s g
    cases s
    wp_walk using wpAny_loadPart' ho
    rw [e2]
    wp_walk
    exact told)
  | n + 1, i, s, hn, g, q => codeAny_builtin entry_contains_loop (by
    obtain ⟨items, ⟨⟨cls, dd, data, sl⟩, ho, hc, m, hd⟩, hsz, hi⟩ := hG s g
    simp only at hc hd
    subst hc hd
    have hlt : i < items.size := by omega
    have e2 : items[((i : Nat) : Int).toNat]? = some items[i] := by simp [hlt]
    rw [Around.under_plainId plain_contains_loop _]
    have go := hi i items[i] (by simp [hlt])
    have next : e i = false → ∀ s', G s' → codeAny (model prog w) A (.builtin "list.__contains__.loop" ⟨[.ref l, x, rawInt (i + 1 : Nat)], []⟩) (wants Q E) s' := fun hb s' g' =>
      list_loop hG n (i + 1) s' (by omega) g' fun s2 g2 => by have := q s2 g2; rw [any_from, hb, Bool.false_or] at this; exact this
    have told : e i = true → ∀ s', G s' → Q (.bool true) s' := fun hb s' g' => by have := q s' g'; rw [any_from, hb, Bool.true_or] at this; exact this
    cases s
    wp_walk using wpAny_loadPart' ho
    rw [e2]
    refine wpAny_bind (go _ fun s' g' => ?_)
    cases hb : e i with
    | true =>
      wp_walk
      exact told hb s' g'
    | false =>
      wp_walk
      exact ⟨plainId_quiet plain_contains_loop _, by have := next hb s' g'; simpa using this⟩)
theorem list_inG {l : Addr} {x : Value} {N : Nat} {e : Nat → Bool} {G : Shared → Prop} {Q : Bool → Shared → Prop} (hG : Looks prog w A.in1 E l x N e G) (h0 : G s)
    (k : ∀ s', G s' → Q ((List.range N).any e) s') : wpAny (model prog w) A (contains (.ref l) x) Q E s := by
  obtain ⟨items, ⟨⟨cls, dd, data, sl⟩, ho, hc, m, hd⟩, hsz, _⟩ := hG s h0
  simp only at hc hd
  subst hc hd
  have t1 : s.TypeIs (.ref l) "list" := ⟨_, ho, rfl⟩
  refine wpAny_contains_slot t1 F.slot_list_contains (wpAny_call (codeAny_call_builtin F.slot_list_contains.plain F.entry_list_contains (F.slot_list_contains.check _ _ _ _ _ _ _ _ t1 (F.args_list_contains_2 _ _) ?body)))
  have go := list_loop (A := A) (E := E) (Q := fun r s' => wpAny (model prog w) A (truthy r) Q E s') hG N 0 s (by omega) h0 fun s' g' => wpAny_truthy_bool (by rw [← List.range_eq_range']; exact k s' g')
  cases s
  wp_walk using wpAny_loadPart' ho
  exact ⟨plainId_quiet plain_contains_loop _, go⟩
end
section
variable {X : Cx} {j k : Nat} {C : Addr} {D' : Addr → FuncData → Prop} {ps : List Str} {sp : PSp} {W : WX} {a b : Expr} {pos : Pos}
def rInL (K : PySem.W.Frag) (C : Addr) (sp : Sp) (n : Nat) (f : Bool → Bool) : R2 := fun x y H Q => ∃ (G : Hp → Prop) (e : Nat → Bool) (t : Addr) (ws : List V), y = .ref t ∧ G H ∧ (∀ H', G H' → SqL K H' t ws) ∧ (TupInj K H → ∀ (j : Nat) (v : V), ws[j]? = some v → HEq' K C sp G n v x (e j)) ∧ ∀ H', G H' → Q (.bl (f ((List.range ws.length).any e))) H'
theorem Method.inL {sp : Sp} {n : Nat} {f : Bool → Bool} (M : Method X.prog X.w X.K X.mg X.base CX0 k C "__eq__" D' ps sp) (hr : Room j X.A) (hg : X.A.guards = some []) (hj : k + n + 1 ≤ j) {op : CmpOp} (hop : ∀ x c, compareOp op x c = (do return .bool (f (← contains c x)))) : OpR X (compareOp op) (rInL X.K C sp n f) := by
  intro pins s σ H x y v u Q I rx ry h
  obtain ⟨G, e, t, ws, rfl, hG, hst, he, hQ⟩ := h
  replace he := he (Lay.Inv.tupInj I)
  obtain rfl : u = Value.ref t := ry
  have hr' := hr.mono hj
  rw [hop]
  refine wpAny_bind (list_inG (N := ws.length) (e := e) (G := fun s => ∃ H, Inv X pins σ H s ∧ G H) (fun s' ⟨H', I', g'⟩ => ?_) ⟨H, I, hG⟩ fun s' ⟨H', I', hG'⟩ => wpAny_pure ⟨.bl _, H', I', by simp [L2.RelV], hQ H' hG'⟩)
  obtain ⟨its, rs, ⟨o, m, ho, hc, _, hd⟩, _⟩ := I'.list (hst H' g')
  have l1 := rs.length
  refine ⟨its.toArray, ⟨_, ho, hc, m, hd⟩, by rw [List.size_toArray, l1], fun i y ey Q hq => ?_⟩
  have ey : its[i]? = some y := by simpa using ey
  have hi := lt_of_get ey
  obtain ⟨u, f1, r1⟩ := rs.get (i := i) (x := ws[i]'(by omega)) (List.getElem?_eq_getElem _)
  rw [ey] at f1
  cases f1
  exact M.item (he i _ (List.getElem?_eq_getElem _)) hr'.in1 hg (fun H s I => I.env0.in1) I' g' r1 rx fun H2 s2 I2 G2 => hq s2 ⟨H2, I2, G2⟩
/-- x in t, x not in t -/
def dInL (n : Nat) (C : Addr) (sp : PSp) (f : Bool → Bool) (ta tb : DX D) : DX D := fun ρ z R RX => ta ρ z (fun d1 ρ1 z1 => tb ρ1 z1 (fun d2 ρ2 z2 => ∃ (ys : List D) (e : Nat → Bool), (d2 = .lst ys ∨ d2 = .rol ys) ∧ (∀ (j : Nat) (y : D), ys[j]? = some y → EqI C sp z2 n y d1 (e j)) ∧ R (.bl (f ((List.range ys.length).any e))) ρ2 z2) RX) RX
theorem ap_dInL (n : Nat) (C : Addr) (sp : PSp) (f : Bool → Bool) (ta tb : DX D) (s0 : Sl) (ρ0 : List Sl) (z : Z) (R : D → List Sl → Z → Prop) (RX : KX) : dInL n C sp f ta tb (s0 :: ρ0) z R RX = (ta (s0 :: ρ0) z (fun d1 ρ1 z1 => tb ρ1 z1 (fun d2 ρ2 z2 => ∃ (ys : List D) (e : Nat → Bool), (d2 = .lst ys ∨ d2 = .rol ys) ∧ (∀ (j : Nat) (y : D), ys[j]? = some y → EqI C sp z2 n y d1 (e j)) ∧ R (.bl (f ((List.range ys.length).any e))) ρ2 z2) RX) RX) := rfl
theorem UG.inL {K : PySem.W.Frag} {n : Nat} {f : Bool → Bool} {ta tb : DX D} {σ : L2.St} {H : Hp} {Q : VK} (h : UG K W (relE K) (dInL n C sp f ta tb) σ H Q) :
    tOp (rInL K C (lift K sp) n f) (UG K W (relE K) ta) (UG K W (relE K) tb) σ H Q := by
  obtain ⟨M, ρ, z, O, R, RX, w, h, x, k⟩ := h
  refine ⟨M, ρ, z, O, _, RX, w, h, x, fun d1 ρ1 z1 v1 H1 O1 h1 g1 w1 r1 => ?_⟩
  refine ⟨M, ρ1, z1, O1, _, RX, w1, h1, x.after g1.toGo, fun d2 ρ2 z2 v2 H2 O2 ⟨ys, e, e2, he, hR⟩ g2 w2 r2 => ?_⟩
  have r1' := Rep.mono g2.ext _ _ r1
  obtain ⟨t, ws, rfl, p1, q1⟩ : ∃ t ws, v2 = .ref t ∧ LstAt K (NN M z2 O2) H2 t ws ∧ Reps K (NN M z2 O2) H2 ys ws := by
    have r2' := r2
    rcases e2 with rfl | rfl
    · rw [relE, Rep] at r2'
      obtain ⟨t, ws, h1, h2, h3, h4⟩ := r2'
      exact ⟨t, ws, h1, .inl ⟨h2, .inl h3⟩, h4⟩
    · rw [relE, Rep] at r2'
      exact r2'
  rw [← Reps.len q1] at hR
  refine ⟨fun H' => GoE M H2 z2 O2 H' z2 O2 ∧ Wd K M H' σ ρ2 z2 O2, e, t, ws, rfl, ⟨GoE.refl, w2⟩, fun H' ⟨g, w'⟩ => ?_, fun T j v hv => ?_, fun H' ⟨g, w'⟩ => k _ ρ2 z2 _ H' O2 hR (g1.trans (g2.trans g)) w' .b⟩
  · refine LstAt.sq (N := NN M z2 O2) ?_
    rcases p1 with ⟨n, p⟩ | p
    · exact .inl (g.ext.rd n p)
    · exact .inr p
  · have hj1 := lt_of_get hv
    rw [Reps.len q1] at hj1
    obtain ⟨v', ev, rv⟩ := q1.get (List.getElem?_eq_getElem hj1)
    rw [hv] at ev; cases ev
    exact (he j _ (List.getElem?_eq_getElem hj1)).toH w2 T rv r1'
theorem Method.dInL {n : Nat} {ta tb : DX D} (M : Method X.prog X.w X.K X.mg X.base CX0 k C "__eq__" D' ps (lift X.K sp)) (hr : Room j X.A) (hg : X.A.guards = some []) (ha : DE X W a ta) (hb : DE X W b tb) (hmk : behindInMarks CmpOp.In b = false := by rfl) (hj : k + n + 1 ≤ j := by decide) : DE X W (.Compare a [.In] [b] pos) (Lay.dInL n C sp id ta tb) :=
  pe_to (pe_cmpR (Method.inL (op := .In) M hr hg hj fun _ _ => rfl) ha hb hmk) fun _ _ _ h => h.inL
theorem Method.tInL {n : Nat} {ta tb : DX D} (M : Method X.prog X.w X.K X.mg X.base CX0 k C "__eq__" D' ps (lift X.K sp)) (hr : Room j X.A) (hg : X.A.guards = some []) (ha : DE X W a ta) (hb : DE X W b tb) (hmk : behindInMarks CmpOp.In b = false := by rfl) (hj : k + n + 1 ≤ j := by decide) : DT X W (.Compare a [.In] [b] pos) (dTest (Lay.dInL n C sp id ta tb)) :=
  pt_to (pt_cmpR (Method.inL (op := .In) M hr hg hj fun _ _ => rfl) ha hb hmk) fun _ _ _ h => h.test.inL
theorem Method.tNotInL {n : Nat} {ta tb : DX D} (M : Method X.prog X.w X.K X.mg X.base CX0 k C "__eq__" D' ps (lift X.K sp)) (hr : Room j X.A) (hg : X.A.guards = some []) (ha : DE X W a ta) (hb : DE X W b tb) (hmk : behindInMarks CmpOp.NotIn b = false := by rfl) (hj : k + n + 1 ≤ j := by decide) : DT X W (.Compare a [.NotIn] [b] pos) (dTest (Lay.dInL n C sp not ta tb)) :=
  pt_to (pt_cmpR (Method.inL (op := .NotIn) M hr hg hj fun _ _ => rfl) ha hb hmk) fun _ _ _ h => h.test.inL
end
end Lay

set_option Elab.async false
set_option linter.all false
set_option maxRecDepth 100000
set_option maxHeartbeats 2000000
namespace Lay
open PySem PySem.Spec PyProof.Rows L2
/-! ### sorted(d), d a dict with text keys -/
section
variable {prog : Program} {w : World} {A : Around} {E : Value → Shared → Prop} {s : Shared}
end
def rSortedD : List V → Hp → VK → Prop := fun vs H Q => ∃ (a : Addr) (kvs : List (Key × V)) (xs : List Str), vs = [V.ref a] ∧ H a = some (.dK kvs) ∧ kvs.map (·.1) = xs.map Sum.inr ∧ xs.length < 64 ∧
  ∀ (ys : List Str) (p : Addr), ys.Perm xs → sortedS ys = true → H p = none → Q (.ref p) (upd H p (.lst (ys.map V.str)))
section
variable {X : Cx} {W : WX} {e o i a b : Expr} {es : List Expr} {st : Stmt} {pos : Pos}
def dSortM (t : DX D) : DX (List D) := fun ρ z R RX => t ρ z (fun d ρ1 z1 => ∃ a ks ds xs, d = .adr a ∧ z1.m a = some (.dic ks ds) ∧ ks = xs.map Sum.inr ∧ xs.length < 64 ∧ ∀ ys : List Str, ys.Perm xs → sortedS ys = true → R (ys.map D.str) ρ1 z1) RX
theorem ap_dSortM (t : DX D) (s0 : Sl) (ρ0 : List Sl) (z : Z) (R : List D → List Sl → Z → Prop) (RX : KX) : dSortM t (s0 :: ρ0) z R RX = t (s0 :: ρ0) z (fun d ρ1 z1 => ∃ a ks ds xs, d = .adr a ∧ z1.m a = some (.dic ks ds) ∧ ks = xs.map Sum.inr ∧ xs.length < 64 ∧ ∀ ys : List Str, ys.Perm xs → sortedS ys = true → R (ys.map D.str) ρ1 z1) RX := rfl
/-! ### {} as a cell -/
def dMemD0 : DX D := fun ρ z R _ => ∀ a, ¬ z.has a → R (.adr a) ρ (z.put a (.dic [] []))
theorem ap_dMemD0 (R : D → List Sl → Z → Prop) (RX : KX) (s0 : Sl) (ρ0 : List Sl) (z : Z) : dMemD0 (s0 :: ρ0) z R RX = ∀ a, ¬ z.has a → R (.adr a) (s0 :: ρ0) (z.put a (.dic [] [])) := rfl
/-! ### k in d, len(d), d.pop(k), d a cell -/
def dMlen (t : DX D) : DX D := fun ρ z R RX => t ρ z (fun d ρ1 z1 => ∃ a ks ds, d = .adr a ∧ z1.m a = some (.dic ks ds) ∧ R (.int (ks.length : Nat)) ρ1 z1) RX
theorem ap_dMlen (t : DX D) (R : D → List Sl → Z → Prop) (RX : KX) (s0 : Sl) (ρ0 : List Sl) (z : Z) : dMlen t (s0 :: ρ0) z R RX = t (s0 :: ρ0) z (fun d ρ1 z1 => ∃ a ks ds, d = .adr a ∧ z1.m a = some (.dic ks ds) ∧ R (.int (ks.length : Nat)) ρ1 z1) RX := rfl
def dropD : List Key → List D → Key → List Key × List D
  | k :: ks, d :: ds, q => if k = q then dropD ks ds q else (k :: (dropD ks ds q).1, d :: (dropD ks ds q).2)
  | _, _, _ => ([], [])
def dMpop (to ti : DX D) : DX D := fun ρ z R RX => to ρ z (fun r ρ1 z1 => ∃ a, r = .adr a ∧ (∃ ks ds, z1.m a = some (.dic ks ds)) ∧ ti ρ1 z1 (fun i ρ2 z2 => ∃ s ks ds d, i = .str s ∧ z2.m a = some (.dic ks ds) ∧ lookD ks ds (.inr s) = some d ∧ R d ρ2 (z2.put a (.dic (dropD ks ds (.inr s)).1 (dropD ks ds (.inr s)).2))) RX) RX
theorem ap_dMpop (to ti : DX D) (R : D → List Sl → Z → Prop) (RX : KX) (s0 : Sl) (ρ0 : List Sl) (z : Z) : dMpop to ti (s0 :: ρ0) z R RX = to (s0 :: ρ0) z (fun r ρ1 z1 => ∃ a, r = .adr a ∧ (∃ ks ds, z1.m a = some (.dic ks ds)) ∧ ti ρ1 z1 (fun i ρ2 z2 => ∃ s ks ds d, i = .str s ∧ z2.m a = some (.dic ks ds) ∧ lookD ks ds (.inr s) = some d ∧ R d ρ2 (z2.put a (.dic (dropD ks ds (.inr s)).1 (dropD ks ds (.inr s)).2))) RX) RX := rfl
end
end Lay

set_option Elab.async false
set_option linter.all false
set_option maxRecDepth 100000
set_option maxHeartbeats 2000000
namespace Lay
open PySem PySem.Spec PyProof.Rows L2
/-! ### x is True, x is not True, x of any kind -/
def sameB (b : Bool) : D → Bool
  | .bl a => decide (a = b)
  | _ => false
def isBG (f : Bool → Bool) : Op2 := fun d e k => ∃ b, e = .bl b ∧ k (.bl (f (sameB b d)))
theorem e_isBG (f : Bool → Bool) (d : D) (b : Bool) (k : D → Prop) : isBG f d (.bl b) k = k (.bl (f (sameB b d))) := propext ⟨fun ⟨c, e, h⟩ => by cases e; exact h, fun h => ⟨b, rfl, h⟩⟩
section
variable {X : Cx} {K : PySem.W.Frag} {N : Addr → Prop} {H : Hp}
end
/-! ### x, y, u = e, e, [..], u an own list -/
section
variable {X : Cx} {W : WX} {a b c : Expr} {pos : Pos}
def dPar3L (i j l : Nat) (ta tb : DX D) (tc : DX (List D)) : DTS := fun R ρ z => ta ρ z (fun d1 ρ1 z1 => tb ρ1 z1 (fun d2 ρ2 z2 => tc ρ2 z2 (fun xs ρ3 z3 => l < ρ3.length ∧ R.nx (((ρ3.set i (.val d1)).set j (.val d2)).set l (.own xs)) z3) R.ex) R.ex) R.ex
theorem ap_dPar3L (i j l : Nat) (ta tb : DX D) (tc : DX (List D)) (R : DEnds) (s0 : Sl) (ρ0 : List Sl) (z : Z) : dPar3L i j l ta tb tc R (s0 :: ρ0) z = ta (s0 :: ρ0) z (fun d1 ρ1 z1 => tb ρ1 z1 (fun d2 ρ2 z2 => tc ρ2 z2 (fun xs ρ3 z3 => l < ρ3.length ∧ R.nx (((ρ3.set i (.val d1)).set j (.val d2)).set l (.own xs)) z3) R.ex) R.ex) R.ex := rfl
end
end Lay

set_option Elab.async false
set_option linter.all false
set_option maxRecDepth 100000
set_option maxHeartbeats 2000000
namespace Lay
open PySem PySem.Spec PyProof.Rows L2
/-! ### defs that are called within an except suite (they raise nothing; what is handled stays out of their reach) -/
abbrev RoomH := L2H.RoomH
theorem RoomH.units0 {k : Nat} {A : Around} (r : L2H.RoomH k A) : A.units < cLine := by have := r.un; omega
theorem _root_.L2H.RoomH.units {k : Nat} {A : Around} (r : L2H.RoomH k A) : A.units + 64 < cLine := by have := r.un; omega
theorem RoomH.in1 {k : Nat} {A : Around} (r : L2H.RoomH (k + 1) A) : L2H.RoomH k A.in1 :=
  ⟨by have := r.dp; show A.depth + 3 * k + 5 < _; omega, by have := r.un; show A.units + 1 + 16 * k + 200 < _; omega⟩
theorem RoomH.tup {k : Nat} {A : Around} (r : L2H.RoomH (k + 1) A) (us : List Value) {id : String} (hi : id = "tuple.__repr__" ∨ id = "tuple.__repr__.under") : L2H.RoomH k (A.under (.builtin id ⟨us, []⟩)) :=
  have ⟨h1, h2, h3⟩ := tup_depth A us id hi
  ⟨by have := r.dp; omega, by have := r.un; omega⟩
/-- a def's promise there: p is an object that stands, out of the reach of what is tracked -/
structure FnW (P : Program) (w : World) (K : PySem.W.Frag) (mg : Str → Option Value) (base : Heap) (k : Nat) (f : Addr) (fd : FuncData) (ps : List Str) (sp : Sp) : Prop where
  len : ∀ vs H Q E, sp vs H Q E → vs.length = ps.length
  run : ∀ (A : Around) (outer : List Env) (s : Shared) (H : Hp) (args : Args) (us : List Value) (vs : List V) (Q : VK) (E : XK) (p : Addr × Obj), L2H.RoomH k A → L2H.PinOk outer H s p → Env0 P w K mg base A outer s H → BindsTo s fd args (ps.zip us) → Vals vs us → sp vs H Q E →
    codeAny (model P w) A (.call (.ref f) args) (CR CX0 outer P w H s Q E) s
structure MethodW (P : Program) (w : World) (K : PySem.W.Frag) (mg : Str → Option Value) (base : Heap)
    (k : Nat) (C : Addr) (m : Str) (D : Addr → FuncData → Prop) (ps : List Str) (sp : Sp) : Prop where
  ex : ∃ (f : Addr) (fd : FuncData), Cls K C ∧ Meth K C m f ∧ D f fd ∧ Binds K fd ps [] ∧ FnW P w K mg base k f fd ps sp
section
variable {X : Cx} {j k : Nat} {C f : Addr} {fd : FuncData} {D : Addr → FuncData → Prop} {ps : List Str} {sp : Sp} {pins : List (Addr × Obj)} {σ : L2.St} {H : Hp} {s : Shared}
  {Q : VK} {E : XK} {us : List Value} {vs : List V}
theorem acallW {A : Around} {E' : Value → Shared → Prop} (F : FnW X.prog X.w X.K X.mg X.base k f fd ps sp) (hr : L2H.RoomH k A) (hp : ∃ p, p ∈ X.pn)
    (e0 : Env0 X.prog X.w X.K X.mg X.base A X.stack s H) (hb : Binds X.K fd ps []) (I : Inv X pins σ H s) (r : Vals vs us) (h : sp vs H Q E) :
    wpAny (model X.prog X.w) A (call (.ref f) us) (EP X pins σ Q) E' s := by
  obtain ⟨p, hp⟩ := hp
  have hl : us.length = ps.length := by rw [← r.length]; exact F.len _ _ _ _ h
  have bb := hb s us I.kIn (by rw [List.append_nil]; exact hl)
  rw [List.append_nil] at bb
  have P1 := I.pin p (List.mem_append_left _ hp)
  have hpin : L2H.PinOk X.stack H s p := ⟨P1.1, P1.2.1, fun hm => (List.mem_cons.mp (I.stkSub p.1 hm)).elim P1.2.2.1 P1.2.2.2.1, P1.2.2.2.2⟩
  refine wpAny_call (codeAny_mono (F.run A X.stack s H ⟨us, []⟩ us vs Q E p hr hpin e0 bb r h) fun r s' hq => ?_)
  match r, hq with
  | .ok (.ret u), hq => exact I.after hq
theorem MethodW.str (M : MethodW X.prog X.w X.K X.mg X.base k C "__str__" D ps sp) (hr : L2H.RoomH j X.A) (hp : ∃ p, p ∈ X.pn) (hj : k + 2 ≤ j := by decide) : CallR X (.type "str") (rStrO C sp) := by
  obtain ⟨f, fd, c, hm, F, b, G⟩ := M.ex
  rintro pins s σ H _ us Q I r ⟨a, dx, fs, rfl, ea, z⟩
  obtain ⟨_, rfl, rfl⟩ := r.one
  obtain ⟨mA, O, _⟩ := ins_get I.hok ea
  obtain ⟨od, J, _⟩ := O.look
  have r2 := RoomH.in1 (RoomH.in1 (L2H.RoomH.mono hr hj))
  refine PySem.W.kso_call (RoomH.units0 r2) I.kIn J hm.at_ hm.fn (wpAny_mono (acallW (vs := [V.ref a]) G r2 hp I.env0.in1.in1 b I (.cons rfl .nil) z) (fun w s' hw => ?_) fun _ _ e => e)
  obtain ⟨v, H', I', rv, n, rfl, q⟩ := hw
  obtain ⟨t, rfl⟩ := (show ∃ t, w = Value.str n t from rv)
  exact ⟨.str n, H', I', ⟨_, rfl⟩, q⟩
end
section
variable {X : Cx} {W : WX} {e : Expr} {pos : Pos} {j k : Nat} {C : Addr} {D' : Addr → FuncData → Prop} {ps : List Str} {sp : PSp}
end
section
variable {X : Cx} {j k : Nat} {C : Addr} {D' : Addr → FuncData → Prop} {ps : List Str} {sp : Sp} {pins : List (Addr × Obj)} {σ : L2.St}
theorem MethodW.under (M : MethodW X.prog X.w X.K X.mg X.base k C "__repr__" D' ps sp) (hp : ∃ p, p ∈ X.pn) {G : Hp → Prop} {E : Value → Shared → Prop} : ∀ {as : List Addr} {n : Nat} {v : V} {t : Str}, HSh X.K C sp G as n v t → ∀ {A : Around} {g : List Code}, L2H.RoomH (k + n) A → A.guards = some g → Off as g →
    (∀ H s, Inv X pins σ H s → Env0 X.prog X.w X.K X.mg X.base A X.stack s H) → ∀ {u : Value}, RelV v u → ShowsG X.prog X.w A E (fun s => ∃ H, Inv X pins σ H s ∧ G H) t u := by
  intro as n v t h
  induction h with
  | @own as n a t h =>
    intro A g hr hg ho hA u ru b hb s ⟨H, I, hG⟩ Q hQ
    obtain ⟨f, fd, c0, hm, F, bb, Gf⟩ := M.ex
    obtain rfl : u = Value.ref a := ru
    obtain ⟨⟨dx, fs, ea⟩, z⟩ := h H hG
    obtain ⟨mA, O, _⟩ := ins_get I.hok ea
    obtain ⟨od, J, _⟩ := O.look
    refine ownUnder_K (by omega) (RoomH.units0 hr) I.kIn J hm.at_ hm.fn (wpAny_mono (acallW (vs := [V.ref a]) Gf (L2H.RoomH.mono hr (Nat.le_add_right _ _)) hp (hA _ _ I) bb I (.cons rfl .nil) z) (fun w s' hw => ?_) fun _ _ e => e)
    obtain ⟨v, H', I', rv, rfl, hG'⟩ := hw
    obtain ⟨u, rfl⟩ := (show ∃ u, w = Value.str t u from rv)
    exact ⟨_, _, rfl, hQ s' ⟨H', I', hG'⟩⟩
  | @leaf as n v t h =>
    intro A g hr hg ho hA u ru b hb s ⟨H, I, hG⟩ Q hQ
    have fin : ∀ tk, Q t { s with toks := tk } := fun tk => hQ _ ⟨H, I.tok tk, hG⟩
    cases h with
    | int h => obtain ⟨tk, rfl⟩ := ru; exact ReprIs.int tk h b hb _ _ _ _ fin
    | str h => obtain ⟨tk, rfl⟩ := ru; exact ReprIs.str _ tk h b hb _ _ _ _ fin
    | bl => obtain rfl := (show u = _ from ru); exact ReprIs.bool _ b hb _ _ _ _ fin
    | non => obtain rfl := (show u = _ from ru); exact ReprIs.none b hb _ _ _ _ fin
  | @tup as n a vs ts ha h hl ht ih =>
    intro A g hr hg ho hA u ru b hb s ⟨H, I, hG⟩ Q hQ
    obtain rfl : u = Value.ref a := ru
    obtain ⟨its, rs, hT, _⟩ := I.tuple (h H hG)
    have ll := rs.length
    obtain ⟨m, dd, sl, eo⟩ := tup_obj hT
    refine wpAny_pyReprUnder_ref (by omega) (wpAny_pyReprObjUnder_twin (twin := "tuple.__repr__.under") ⟨_, eo, rfl⟩ F.slot_tuple_repr rfl (RoomH.units0 hr)
      (call_twin_own (F.quiet_tuple_repr_under _) F.entry_tuple_repr_under F.check_tuple_repr_under ⟨_, eo, rfl⟩ F.slot_tuple_repr (F.args_tuple_repr_1 _)
        (tup_shown (ts := ts) (R := callEnd _ E) (G := fun s => ∃ H, Inv X pins σ H s ∧ G H) (.inr rfl) hT hg (ho a ha) ⟨H, I, hG⟩ (paired_at (by simp [hl, ll]) fun i t x et ex => ?_) (by simp [hl, ll]) hb (fun s t ⟨H, I, q⟩ => ⟨H, I.tok t, q⟩) fun s' u q => ⟨⟨_, _, rfl⟩, _, _, rfl, hQ s' q⟩)))
    have hi := lt_of_get et
    obtain ⟨u, f1, r1⟩ := rs.get (i := i) (x := vs[i]'(by omega)) (List.getElem?_eq_getElem _)
    have ex' : its[i]? = some x := by simpa using ex
    rw [ex'] at f1
    cases f1
    have hr' : L2H.RoomH (k + n + 1) A := hr
    exact ih i _ _ (List.getElem?_eq_getElem _) et (RoomH.tup hr' _ (.inr rfl)) (guards_under_guard (isGuard_tuple_repr_under _) hg) (ho.cons a _ _) (fun H s I => Env0.tup (hA H s I) _ (.inr rfl)) r1
theorem MethodW.tupRepr {n : Nat} (M : MethodW X.prog X.w X.K X.mg X.base k C "__repr__" D' ps sp) (hr : L2H.RoomH j X.A) (hp : ∃ p, p ∈ X.pn) (hg : X.A.guards = some []) (hj : k + n + 3 ≤ j) : CallR X (.builtin "repr") (rTupR X.K C sp n) := by
  rintro pins s σ H _ us Q I r ⟨G, a, vs, t, rfl, hq, hG, hz, hs, hQ⟩
  obtain ⟨_, rfl, rfl⟩ := r.one
  have T := Lay.Inv.tupInj I
  replace hs := hs T
  cases hs with
  | own h =>
    obtain ⟨⟨dx, fs, e⟩, _⟩ := h H hG
    exact (T.no _ _ _ _ _ hq e).elim
  | leaf h => cases h
  | @tup _ _ _ vs' ts ha h hl ht =>
    obtain ⟨its, rs, hT, _⟩ := I.tuple (h H hG)
    have ll := rs.length
    obtain ⟨m, dd, sl, eo⟩ := tup_obj hT
    have r1 : L2H.RoomH (k + n + 2) X.A.in1 := RoomH.in1 (L2H.RoomH.mono hr hj)
    refine call_repr_slot (by have := RoomH.units0 r1; exact this) ⟨_, eo, rfl⟩ F.slot_tuple_repr (wpAny_call (codeAny_call_builtin_own (Code.quiet_builtin _ (by decide +kernel)) F.entry_tuple_repr (F.slot_tuple_repr.check _ _ _ _ _ _ _ _ ⟨_, eo, rfl⟩ (F.args_tuple_repr_1 _)
      (tup_shown (A := X.A.in1) (ts := ts) (b := 0) (R := callEnd _ _) (G := fun s => ∃ H, Inv X pins σ H s ∧ G H) (.inl rfl) hT hg (fun _ m => nomatch m) ⟨H, I, hG⟩ (paired_at (by simp [hl, ll]) fun i t x et ex => ?_) (by simp [hl, ll]) (by omega) (fun s t ⟨H, I, q⟩ => ⟨H, I.tok t, q⟩) fun s' u q => ?_))))
    · have hi := lt_of_get et
      obtain ⟨u, f1, r2⟩ := rs.get (i := i) (x := vs'[i]'(by omega)) (List.getElem?_eq_getElem _)
      have ex' : its[i]? = some x := by simpa using ex
      rw [ex'] at f1
      cases f1
      have r3 : L2H.RoomH (k + n + 1 + 1) X.A.in1 := r1
      exact M.under hp (ht i _ _ (List.getElem?_eq_getElem _) et) (L2H.RoomH.mono (RoomH.tup r3 _ (.inl rfl)) (by omega)) (guards_under_guard (isGuard_tuple_repr _) hg) (Off.cons (show Off [] [] from fun _ _ _ m => nomatch m) a _ _) (fun H s I => Env0.tup I.env0.in1 _ (.inl rfl)) r2
    · obtain ⟨H', I', q⟩ := q
      exact ⟨_, _, rfl, .str _, H', I', ⟨_, rfl⟩, hQ H' q⟩
end
section
variable {X : Cx} {W : WX} {e : Expr} {pos : Pos} {j k : Nat} {C : Addr} {D' : Addr → FuncData → Prop} {ps : List Str} {sp : PSp}
theorem MethodW.dReprT {t : DX D} (n : Nat) (M : MethodW X.prog X.w X.K X.mg X.base k C "__repr__" D' ps (lift X.K sp)) (hr : L2H.RoomH j X.A) (hp : ∃ p, p ∈ X.pn) (hg : X.A.guards = some []) (hG : Gl X "repr") (hm : X.mg "repr" = none) (he : DE X W e t) (hj : k + n + 3 ≤ j := by decide)
    (hs : starEach [e] X.env = (false, eval e X.env) :: starEach [] X.env := by rfl) : DE X W (.Call (.Name "repr" p) [e] [] pos) (Lay.dReprT n C sp t) := pe_to (pe_callB (M.tupRepr hr hp hg hj) hG hm (by decide +kernel) (pa_cons he pa_nil hs) (by decide) (by decide) hs (by rfl)) fun σ H Q h => by
  obtain ⟨M, ρ, z, O, R, RX, w, h, x, k⟩ := h
  refine ⟨M, ρ, z, O, _, RX, w, h, x, fun d ρ1 z1 v H1 O1 ⟨ds, t, e, f, hz, hs, hR⟩ g1 w1 r1 => ?_⟩
  have q := r1
  rw [e] at q
  obtain ⟨a, vs, rfl, p, _⟩ := RepP.tup (z := z1) (.inl q)
  exact ⟨fun H' => GoE M H1 z1 O1 H' z1 O1 ∧ Wd X.K M H' σ ρ1 z1 O1, a, vs, t, rfl, p, ⟨GoE.refl, w1⟩, hz, fun T => hs.toH w1 T f (fun _ m => nomatch m) r1, fun H' ⟨g, w'⟩ => k _ ρ1 z1 _ H' O1 hR (g1.trans g) w' .s⟩
end
/-! ### methods that raise, called with keywords -/
section
variable {X : Cx} {W : WX} {e o : Expr} {es : List Expr} {pos p apos : Pos} {CX : CXT} {k n j : Nat} {ks ps : List Str} {x : Str} {C : Addr} {m : Str} {D' : Addr → FuncData → Prop} {sp : PSp} {kws : List Keyword} {g : List Value → List Value → List Value} {gV : List V → List V → List V} {gD : List D → List D → List D} {pl : Sem Bool}
def dMethKwX (C : Addr) (m : Str) (n mm : Nat) (gD : List D → List D → List D) (sp : PSp) (to : DX D) (t tk : DX (List D)) : DX D := fun ρ z R RX => to ρ z (fun d ρ1 z1 => (∃ ns ds, d = .ins C ns ds ∧ m ∉ ns) ∧ t ρ1 z1 (fun es ρ2 z2 => tk ρ2 z2 (fun fs ρ3 z3 => es.length = n ∧ fs.length = mm ∧
  sp (gD (d :: es) fs) z3 (fun r z4 => R r ρ3 z4) (fun C ns es z4 => RX C ns es ρ3 z4)) RX) RX) RX
theorem ap_dMethKwX (C : Addr) (m : Str) (n mm : Nat) (gD : List D → List D → List D) (sp : PSp) (to : DX D) (t tk : DX (List D)) (s0 : Sl) (ρ0 : List Sl) (z : Z) (R : D → List Sl → Z → Prop) (RX : KX) : dMethKwX C m n mm gD sp to t tk (s0 :: ρ0) z R RX = ((to (s0 :: ρ0) z (fun d ρ1 z1 => (∃ ns ds, d = .ins C ns ds ∧ m ∉ ns) ∧ t ρ1 z1 (fun es ρ2 z2 => tk ρ2 z2 (fun fs ρ3 z3 => es.length = n ∧ fs.length = mm ∧
  sp (gD (d :: es) fs) z3 (fun r z4 => R r ρ3 z4) (fun C ns es z4 => RX C ns es ρ3 z4)) RX) RX) RX)) := rfl
end
end Lay

set_option Elab.async false
set_option linter.all false
set_option maxRecDepth 100000
set_option maxHeartbeats 2000000
namespace Lay
open PySem PySem.Spec PyProof.Rows L2
/-! ### exceptions whose context is None (raised where nothing is handled), so that a suite may raise `from None` -/
section
variable {X : Cx} {e : Expr} {es : List Expr} {ta : TA} {p pos : Pos}
end
section
variable {X : Cx} {W : WX} {x : Str} {C : Addr} {fn ps : List Str} {e : Expr} {es : List Expr} {j : Nat} {p pos pos2 : Pos}
/-- the same within an except suite: what its __init__ promises there -/
structure ExcH (P : Program) (w : World) (K : PySem.W.Frag) (mg : Str → Option Value) (base : Heap) (x : Str) (C : Addr) (fn ps : List Str) : Prop where
  T : OexC K C
  mgx : mg x = some (.ref C)
  ex : ∃ (fI : Addr) (fd : FuncData), PySem.W.findIn K (.ref C) "__init__" = some (some (.ref fI)) ∧ PySem.W.typeIn K (.ref fI) = some (.type "function") ∧ Binds K fd ps [] ∧ FnW P w K mg base 1 fI fd ps (spX C fn)
end
/-! ### defs whose exceptions have no context -/
section
variable {P : Program} {w : World} {K : PySem.W.Frag} {mg : Str → Option Value} {base : Heap} {k : Nat} {f : Addr} {fd : FuncData} {ps : List Str} {sp : PSp} {isp : ISp} {C : Addr} {x qual : Str} {st : Stmt} {N : List Str}
end
/-! ### text.partition -/
def partitionD : FnS
  | z, [.str y], k => (y.length == 0) = false ∧ z.length ≤ sizeLine ∧ k (.tup [.str (Txt.partition z y).1, .str (Txt.partition z y).2.1, .str (Txt.partition z y).2.2])
  | _, _, _ => False
theorem e_partition (z y : Str) (k : D → Prop) : partitionD z [.str y] k = ((y.length == 0) = false ∧ z.length ≤ sizeLine ∧ k (.tup [.str (Txt.partition z y).1, .str (Txt.partition z y).2.1, .str (Txt.partition z y).2.2])) := rfl
section
variable {X : Cx}
end
end Lay

set_option Elab.async false
set_option linter.all false
set_option maxRecDepth 100000
set_option maxHeartbeats 2000000
namespace Lay
open PySem PySem.Spec PyProof.Rows L2 SeqAt PySem.W
/-! ### d == d', d != d' of two cells that are dicts, own == of what they hold -/
section
variable {prog : Program} {w : World} {A : Around} {E : Value → Shared → Prop} {s : Shared} {KK : Type} [DecidableEq KK] {knd : KeyKind prog w KK}
/-- what the pairs tell: each key of the one is looked for in the other, its values compared while both dicts stay as they are -/
def PairsTell (prog : Program) (w : World) (A : Around) (E : Value → Shared → Prop) (G : Shared → Prop) (ka kb : List (KK × Value)) (e : Nat → Bool) : Prop :=
  ∀ i k v, ka[i]? = some (k, v) → (valueAt kb k = none ∧ e i = false) ∨ ∃ y, valueAt kb k = some y ∧ Answers prog w A E G (e i) (v, y)
end
section
variable {X : Cx} {pins : List (Addr × Obj)} {σ : L2.St} {H : Hp} {s : Shared}
end
section
variable {X : Cx} {j k : Nat} {C : Addr} {D' : Addr → FuncData → Prop} {ps : List Str} {sp : PSp} {W : WX} {a b : Expr} {pos : Pos}
def rDicO (K : PySem.W.Frag) (C : Addr) (sp : Sp) (n : Nat) (f : Bool → Bool) : R2 := fun x y H Q => ∃ (a b : Addr) (kvs kws : List (Key × V)) (e : Nat → Bool), x = .ref a ∧ y = .ref b ∧ H a = some (.dK kvs) ∧ H b = some (.dK kws) ∧
  ∀ oa ob H1, H1 a = some (.frz oa (.dK kvs)) → H1 b = some (.frz ob (.dK kws)) → (∀ x, x ≠ a → x ≠ b → H1 x = H x) → ∃ G : Hp → Prop, G H1 ∧ (∀ H', G H' → H' a = some (.frz oa (.dK kvs)) ∧ H' b = some (.frz ob (.dK kws))) ∧
    (TupInj K H1 → ∀ i k v, kvs[i]? = some (k, v) → (valV kws k = none ∧ e i = false) ∨ ∃ y, valV kws k = some y ∧ HEq' K C sp G n v y (e i)) ∧
    ∀ H' H3, G H' → H3 a = some (.dK kvs) → H3 b = some (.dK kws) → (∀ x, x ≠ a → x ≠ b → H3 x = H' x) → Q (.bl (f (kvs.length == kws.length && (List.range kvs.length).all e))) H3
/-- two cells, dicts, compared as the class's own == compares what they hold -/
def dDicO (n : Nat) (C : Addr) (sp : PSp) (f : Bool → Bool) (ta tb : DX D) : DX D := fun ρ z R RX => ta ρ z (fun d1 ρ1 z1 => tb ρ1 z1 (fun d2 ρ2 z2 => ∃ (a b : Addr) (ks : List Key) (ds : List D) (ks2 : List Key) (ds2 : List D) (e : Nat → Bool), d1 = .adr a ∧ d2 = .adr b ∧ z2.m a = some (.dic ks ds) ∧ z2.m b = some (.dic ks2 ds2) ∧
  (∀ i k d, ks[i]? = some k → ds[i]? = some d → (lookD ks2 ds2 k = none ∧ e i = false) ∨ ∃ d', lookD ks2 ds2 k = some d' ∧ EqI C sp ((z2.drop a).drop b) n d d' (e i)) ∧ R (.bl (f (ks.length == ks2.length && (List.range ks.length).all e))) ρ2 z2) RX) RX
theorem ap_dDicO (n : Nat) (C : Addr) (sp : PSp) (f : Bool → Bool) (ta tb : DX D) (s0 : Sl) (ρ0 : List Sl) (z : Z) (R : D → List Sl → Z → Prop) (RX : KX) : dDicO n C sp f ta tb (s0 :: ρ0) z R RX = ta (s0 :: ρ0) z (fun d1 ρ1 z1 => tb ρ1 z1 (fun d2 ρ2 z2 => ∃ (a b : Addr) (ks : List Key) (ds : List D) (ks2 : List Key) (ds2 : List D) (e : Nat → Bool), d1 = .adr a ∧ d2 = .adr b ∧ z2.m a = some (.dic ks ds) ∧ z2.m b = some (.dic ks2 ds2) ∧
  (∀ i k d, ks[i]? = some k → ds[i]? = some d → (lookD ks2 ds2 k = none ∧ e i = false) ∨ ∃ d', lookD ks2 ds2 k = some d' ∧ EqI C sp ((z2.drop a).drop b) n d d' (e i)) ∧ R (.bl (f (ks.length == ks2.length && (List.range ks.length).all e))) ρ2 z2) RX) RX := rfl
end
section
variable {K : PySem.W.Frag} {M : Addr → Prop} {H H1 H' H3 : Hp} {σ : L2.St} {ρ : List Sl} {z : Z} {O : Nat → Option Addr} {a b : Addr} {c d : Cell}
/-- two cells hidden -/
abbrev hid2 (M : Addr → Prop) (a b : Addr) : Addr → Prop := fun x => M x ∨ x = a ∨ x = b
end
section
variable {X : Cx} {j k : Nat} {C : Addr} {D' : Addr → FuncData → Prop} {ps : List Str} {sp : PSp} {W : WX} {a b : Expr} {pos : Pos}
end
end Lay

set_option Elab.async false
set_option linter.all false
set_option maxRecDepth 100000
set_option maxHeartbeats 2000000
namespace Lay
open PySem PySem.Spec PyProof.Rows L2
/-! ### a cell that is a dict, read as a value while an expression is told; then it is a cell again -/
mutual
/-- no dict within -/
def noDic : D → Prop
  | .tup ds => noDics ds
  | .lst ds => noDics ds
  | .rol ds => noDics ds
  | .ins _ _ ds => noDics ds
  | .exn _ _ ds => noDics ds
  | .dic _ _ => False
  | _ => True
def noDics : List D → Prop
  | [] => True
  | d :: ds => noDic d ∧ noDics ds
end
def Cell.pure : Cell → Prop
  | .lst ds => noDics ds
  | .dic _ ds => noDics ds
def Z.pure (z : Z) : Prop := ∀ x c, z.m x = some c → c.pure
theorem Z.pure.put {z : Z} {a : Addr} {c : Cell} (h : z.pure) (hc : c.pure) : (z.put a c).pure := fun x d e => by
  by_cases q : x = a
  · rw [q, Z.put_m] at e; cases e; exact hc
  · rw [Z.put_ne _ _ q] at e; exact h x d e
theorem Z.pure.drop {z : Z} {a : Addr} (h : z.pure) : (z.drop a).pure := fun x d e => by
  by_cases q : x = a
  · rw [q, show (z.drop a).m a = none from if_pos rfl] at e; cases e
  · rw [Z.drop_ne _ q] at e; exact h x d e
section
variable {K : PySem.W.Frag} {N N' : Addr → Prop} {H H' : Hp} {a : Addr} {od : Obj} {kv : List (Key × V)}
mutual
theorem Rep.unlock (ha : H a = some (.frz od (.dK kv))) (hn : ∀ x, N' x → N x ∨ x = a) (hh : ∀ x, x ≠ a → H' x = H x) : ∀ (d : D) (v : V), noDic d → Rep K N H d v → Rep K N' H' d v
  | .non, v, _, h | .bl _, v, _, h | .int _, v, _, h | .str _, v, _, h | .adr _, v, _, h | .ty _, v, _, h => by simpa only [Rep] using h
  | .dic _ _, v, f, _ => by rw [noDic] at f; exact f.elim
  | .tup ds, v, f, h => by
    rw [noDic] at f
    rw [Rep] at h ⊢
    obtain ⟨x, vs, h1, h2, h3⟩ := h
    refine ⟨x, vs, h1, ?_, Reps.unlock ha hn hh ds vs f h3⟩
    rcases h2 with ⟨n, h2⟩ | h2
    · have hx : x ≠ a := fun e => by
        rw [e] at h2
        rcases h2 with q | ⟨o, q⟩ <;> rw [ha] at q <;> cases q
      exact .inl ⟨fun q => (hn x q).elim n hx, h2.imp (fun q => by rw [hh x hx]; exact q) fun ⟨o, q⟩ => ⟨o, by rw [hh x hx]; exact q⟩⟩
    · exact .inr h2
  | .rol ds, v, f, h => by
    rw [noDic] at f
    rw [Rep] at h ⊢
    obtain ⟨x, vs, h1, h2, h3⟩ := h
    refine ⟨x, vs, h1, ?_, Reps.unlock ha hn hh ds vs f h3⟩
    rcases h2 with ⟨n, h2⟩ | h2
    · have hx : x ≠ a := fun e => by
        rw [e] at h2
        rcases h2 with q | ⟨o, q⟩ <;> rw [ha] at q <;> cases q
      exact .inl ⟨fun q => (hn x q).elim n hx, h2.imp (fun q => by rw [hh x hx]; exact q) fun ⟨o, q⟩ => ⟨o, by rw [hh x hx]; exact q⟩⟩
    · exact .inr h2
  | .lst ds, v, f, h => by
    rw [noDic] at f
    rw [Rep] at h ⊢
    obtain ⟨x, vs, h1, h2, h3, h4⟩ := h
    have hx : x ≠ a := fun e => by rw [e, ha] at h3; cases h3
    exact ⟨x, vs, h1, fun q => (hn x q).elim h2 hx, by rw [hh x hx]; exact h3, Reps.unlock ha hn hh ds vs f h4⟩
  | .ins C ns ds, v, f, h => by
    rw [noDic] at f
    rw [Rep] at h ⊢
    obtain ⟨x, dx, vs, h1, h2, h3, h4, h5⟩ := h
    have hx : x ≠ a := fun e => by rw [e, ha] at h3; cases h3
    exact ⟨x, dx, vs, h1, fun q => (hn x q).elim h2 hx, by rw [hh x hx]; exact h3, h4, Reps.unlock ha hn hh ds vs f h5⟩
  | .exn C ns ds, v, f, h => by
    rw [noDic] at f
    rw [Rep] at h ⊢
    obtain ⟨x, oo, vs, h1, h2, h3, h4, h5, h6, h7⟩ := h
    have hx : x ≠ a := fun e => by rw [e, ha] at h3; cases h3
    refine ⟨x, oo, vs, h1, fun q => (hn x q).elim h2 hx, by rw [hh x hx]; exact h3, h4, fun dd e => ?_, h6, Reps.unlock ha hn hh ds vs f h7⟩
    obtain ⟨q1, q2⟩ := h5 dd e
    have hd : dd ≠ a := fun e => by rw [e, ha] at q2; cases q2
    exact ⟨fun q => (hn dd q).elim q1 hd, by rw [hh dd hd]; exact q2⟩
theorem Reps.unlock (ha : H a = some (.frz od (.dK kv))) (hn : ∀ x, N' x → N x ∨ x = a) (hh : ∀ x, x ≠ a → H' x = H x) : ∀ (ds : List D) (vs : List V), noDics ds → Reps K N H ds vs → Reps K N' H' ds vs
  | [], vs, _, h => by simpa only [Reps] using h
  | d :: ds, vs, f, h => by
    rw [noDics] at f
    rw [Reps] at h ⊢
    obtain ⟨v, r, h1, h2, h3⟩ := h
    exact ⟨v, r, h1, Rep.unlock ha hn hh d v f.1 h2, Reps.unlock ha hn hh ds r f.2 h3⟩
end
end
/-- a slot that holds no dict -/
def Sl.pure : Sl → Prop
  | .any => True
  | .val d => noDic d
  | _ => False
/-- slot by slot as they were, or without a dict -/
def SlsOk : List Sl → List Sl → Prop
  | s :: ρ, t :: ρ1 => (s = t ∨ s.pure) ∧ SlsOk ρ ρ1
  | [], [] => True
  | _, _ => False
theorem SlsOk.at : ∀ {ρ ρ1 : List Sl}, SlsOk ρ ρ1 → ∀ {j : Nat} {s : Sl}, ρ[j]? = some s → ρ1[j]? = some s ∨ s.pure
  | s :: ρ, t :: ρ1, h, 0, _, e => by
    cases e
    exact h.1.imp (fun q => by rw [q]; rfl) id
  | s :: ρ, t :: ρ1, h, j + 1, _, e => h.2.at (j := j) e
  | [], [], _, j, _, e => by simp at e
theorem slot_own {K : PySem.W.Frag} {N N' : Addr → Prop} {H H' : Hp} {ov : Option V} {oa ob : Option Addr} : ∀ {s : Sl}, SlotOk K N H ov s oa → SlotOk K N' H' ov s ob → oa = ob
  | .any, h, k => Eq.trans (show oa = none from h) (show ob = none from k).symm
  | .val _, ⟨h, _⟩, ⟨k, _⟩ => h.trans k.symm
  | .own _, ⟨_, _, h1, h2, _⟩, ⟨_, _, k1, k2, _⟩ => by rw [h2] at k2; cases k2; exact h1.trans k1.symm
  | .obj .., ⟨_, _, _, h1, h0, _⟩, ⟨_, _, _, k1, k0, _⟩ => by rw [h1, k1, h0, k0]
  | .exc .., ⟨h, _⟩, ⟨k, _⟩ => h.trans k.symm
  | .ownA .., ⟨_, h, _⟩, ⟨_, k, _⟩ => h.trans k.symm
  | .dicA .., ⟨_, h, _⟩, ⟨_, k, _⟩ => h.trans k.symm
  | .lck .., ⟨h, _⟩, ⟨k, _⟩ => h.trans k.symm
def dBor (i : Nat) (t : DX D) : DX D := fun ρ z R RX => ∃ (a : Addr) (ks : List Key) (ds : List D), ρ[i]? = some (.val (.adr a)) ∧ z.m a = some (.dic ks ds) ∧
  t (ρ.set i (.val (.dic ks ds))) (z.drop a) (fun d ρ' z' => noDic d ∧ z'.pure ∧ ¬ z'.has a ∧ ρ'[i]? = some (.val (.dic ks ds)) ∧ SlsOk (ρ'.set i .any) ρ ∧ R d (ρ'.set i (.val (.adr a))) (z'.put a (.dic ks ds))) (fun _ _ _ _ _ => False)
theorem ap_dBor (i : Nat) (t : DX D) (s0 : Sl) (ρ0 : List Sl) (z : Z) (R : D → List Sl → Z → Prop) (RX : KX) : dBor i t (s0 :: ρ0) z R RX = ∃ (a : Addr) (ks : List Key) (ds : List D), (s0 :: ρ0)[i]? = some (.val (.adr a)) ∧ z.m a = some (.dic ks ds) ∧
  t ((s0 :: ρ0).set i (.val (.dic ks ds))) (z.drop a) (fun d ρ' z' => noDic d ∧ z'.pure ∧ ¬ z'.has a ∧ ρ'[i]? = some (.val (.dic ks ds)) ∧ SlsOk (ρ'.set i .any) (s0 :: ρ0) ∧ R d (ρ'.set i (.val (.adr a))) (z'.put a (.dic ks ds))) (fun _ _ _ _ _ => False) := rfl
section
variable {K : PySem.W.Frag} {M : Addr → Prop} {H H2 : Hp} {σ : L2.St} {ρ ρ' : List Sl} {z z' : Z} {O O' : Nat → Option Addr} {a : Addr} {ks : List Key} {ds : List D} {vs : List V} {od : Obj} {i : Nat}
theorem drop_free (w : Wd K M H σ ρ z O) (ha : z.m a = some (.dic ks ds)) : ¬ NN M (z.drop a) O a := (w.dropM ha).2.2
theorem Wd.back (w : Wd K M H σ ρ z O) (hi : ρ[i]? = some (.val (.adr a))) (ha : z.m a = some (.dic ks ds)) (p1 : H a = some (.dK (ks.zip vs))) (l1 : ks.length = ds.length) (q1 : Reps K (NN M z O) H ds vs)
    (g : GoE M (upd H a (.frz od (.dK (ks.zip vs)))) (z.drop a) O H2 z' O') (w2 : Wd K M H2 σ ρ' z' O') (hp : z'.pure) (hz : ¬ z'.has a) (hi2 : ρ'[i]? = some (.val (.dic ks ds))) (hs : SlsOk (ρ'.set i .any) ρ) :
    H2 a = some (.frz od (.dK (ks.zip vs))) ∧ GoE M H z O (upd H2 a (.dK (ks.zip vs))) (z'.put a (.dic ks ds)) O' ∧ Wd K M (upd H2 a (.dK (ks.zip vs))) σ (ρ'.set i (.val (.adr a))) (z'.put a (.dic ks ds)) O' ∧
    ∀ d v, noDic d → Rep K (NN M z' O') H2 d v → Rep K (NN M (z'.put a (.dic ks ds)) O') (upd H2 a (.dK (ks.zip vs))) d v := by
  have za := Z.has_m ha
  have na := drop_free w ha
  have nz : ¬ (z.drop a).has a := fun q => na (.inr (.inl q))
  have fa := g.fx a _ upd_same nz
  have na2 : ¬ NN M z' O' a := fun q => by
    rcases g.nw a q with q | q
    · exact na q
    · rw [upd_same] at q; cases q
  have nn : ∀ x, NN M (z'.put a (.dic ks ds)) O' x → NN M z' O' x ∨ x = a := fun x h => h.put
  have h3 : ∀ x, x ≠ a → upd H2 a (.dK (ks.zip vs)) x = H2 x := fun x h => upd_ne h
  have al2 : ∀ x, H2 x ≠ none → upd H2 a (.dK (ks.zip vs)) x ≠ none := fun x h => by
    by_cases q : x = a
    · rw [q, upd_same]; exact Option.some_ne_none _
    · rw [upd_ne q]; exact h
  have fx : ∀ x o, H x = some o → ¬ z.has x → upd H2 a (.dK (ks.zip vs)) x = some o := fun x o h n => by
    have hx : x ≠ a := fun e => n (by rw [e]; exact za)
    rw [upd_ne hx]
    exact g.fx x o (by rw [upd_ne hx]; exact h) fun q => n (Z.has_drop q)
  have g3 : GoE M H z O (upd H2 a (.dK (ks.zip vs))) (z'.put a (.dic ks ds)) O' := by
    refine ⟨⟨fun x o h n => ?_, fun x o m h => fx x o h fun q => w.pm x q m, fun x h => ?_, fun x h => ?_, fun x h => ?_⟩, fx⟩
    · exact fx x o h fun q => n (.inr (.inl q))
    · rcases nn x h with q | q
      · rcases g.nw x q with q | q
        · exact .inl q.drop
        · by_cases hx : x = a
          · exact absurd q (by rw [hx, upd_same]; exact Option.some_ne_none _)
          · rw [upd_ne hx] at q; exact .inr q
      · exact .inl (.inr (.inl (by rw [q]; exact za)))
    · rcases Z.has_put h with q | q
      · rcases g.zp x q with q | q
        · exact .inl (Z.has_drop q)
        · by_cases hx : x = a
          · exact absurd q (by rw [hx, upd_same]; exact Option.some_ne_none _)
          · rw [upd_ne hx] at q; exact .inr q
      · exact .inl (by rw [q]; exact za)
    · refine al2 x (g.al x ?_)
      by_cases hx : x = a
      · rw [hx, upd_same]; exact Option.some_ne_none _
      · rw [upd_ne hx]; exact h
  refine ⟨fa, g3, ⟨by rw [List.length_set]; exact w2.len, fun x h => al2 x (w2.al x h), ⟨fun p h => ?_, fun x e h => ?_⟩, fun x h m => ?_, fun j x h => ?_, fun j s h => ?_, fun j h => w2.out j (by
    rw [List.getElem?_eq_none_iff] at h ⊢
    rw [List.length_set] at h
    exact h)⟩, fun d v f r => Rep.unlock fa nn h3 d v f r⟩
  · obtain ⟨o1, o2⟩ := w2.pot.pt p h
    have ne : p ≠ a := fun e => hz (.inl (by rw [← e]; exact h))
    exact ⟨o1.to fun o e => by rw [upd_ne ne]; exact e, by rw [Z.put_ne _ _ ne]; exact o2⟩
  · by_cases q : x = a
    · rw [q, Z.put_m] at h
      cases h
      rw [q]
      exact ⟨vs, upd_same, l1, Reps.mono g3.ext _ _ q1⟩
    · rw [Z.put_ne _ _ q] at h
      have pc := hp x e h
      have o1 := w2.pot.mm x e h
      cases e with
      | lst es =>
        obtain ⟨us, u1, u2⟩ := o1
        exact ⟨us, by rw [upd_ne q]; exact u1, Reps.unlock fa nn h3 _ _ pc u2⟩
      | dic js es =>
        obtain ⟨us, u1, u2, u3⟩ := o1
        exact ⟨us, by rw [upd_ne q]; exact u1, u2, Reps.unlock fa nn h3 _ _ pc u3⟩
  · rcases Z.has_put h with q | q
    · exact w2.pm x q m
    · exact w.pm a za (by rw [← q]; exact m)
  · obtain ⟨h1, h2, h4, h5⟩ := w2.ow j x h
    refine ⟨h1, fun q => ?_, al2 x h4, h5⟩
    rcases Z.has_put q with q | q
    · exact h2 q
    · exact na2 (.inr (.inr ⟨j, by rw [← q]; exact h⟩))
  · by_cases hj : i = j
    · subst hj
      rw [List.getElem?_set_self (lt_of_get hi2)] at h
      cases h
      obtain ⟨o1, v, o2, o3⟩ := w2.sl i _ hi2
      obtain ⟨_, v', e2, e3⟩ := w.sl i _ hi
      rw [o2] at e2
      cases e2
      refine ⟨o1, v, o2, ?_⟩
      rw [Rep] at e3 ⊢
      exact e3
    · rw [List.getElem?_set_ne hj] at h
      have hs' := hs.at (j := j) (s := s) (by rw [List.getElem?_set_ne hj]; exact h)
      have o2 := w2.sl j s h
      rcases hs' with q | q
      · have o1 := w.sl j s q
        have e : O' j = O j := (slot_own o1 o2).symm
        rw [e]
        exact o1.mono g3.ext fun x o q2 e2 => fx x o e2 (w.ow j x q2).2.1
      · cases s with
        | any => exact o2
        | val d =>
          obtain ⟨u1, v, u2, u3⟩ := o2
          exact ⟨u1, v, u2, Rep.unlock fa nn h3 _ _ q u3⟩
        | _ => exact q.elim
end
section
variable {X : Cx} {W : WX} {e : Expr}
end
end Lay

set_option Elab.async false
set_option linter.all false
set_option maxRecDepth 100000
set_option maxHeartbeats 2000000
namespace Lay
open PySem PySem.Spec PyProof.Rows L2
/-! ### a pair: a value, and a list of one's own -/
section
variable {X : Cx} {W : WX} {a b : Expr} {pos : Pos}
def dPairNO (i j : Nat) (t1 : DX D) (t2 : DX (List D)) : DTS := fun R ρ z => t1 ρ z (fun d ρ1 z1 => t2 ρ1 z1 (fun xs ρ2 z2 => j < ρ2.length ∧ R.nx ((ρ2.set i (.val d)).set j (.own xs)) z2) R.ex) R.ex
theorem ap_dPairNO (i j : Nat) (t1 : DX D) (t2 : DX (List D)) (R : DEnds) (s0 : Sl) (ρ0 : List Sl) (z : Z) : dPairNO i j t1 t2 R (s0 :: ρ0) z = t1 (s0 :: ρ0) z (fun d ρ1 z1 => t2 ρ1 z1 (fun xs ρ2 z2 => j < ρ2.length ∧ R.nx ((ρ2.set i (.val d)).set j (.own xs)) z2) R.ex) R.ex := rfl
/-! ### behind a statement: a list of one's own is changed no more -/
def dThenOwn (i : Nat) (t : DTS) : DTS := fun R ρ z => t { R with nx := fun ρ z => ∃ ds, ρ[i]? = some (.own ds) ∧ R.nx (ρ.set i (.val (.lst ds))) z } ρ z
theorem ap_dThenOwn (i : Nat) (t : DTS) (R : DEnds) (s0 : Sl) (ρ0 : List Sl) (z : Z) : dThenOwn i t R (s0 :: ρ0) z = t { R with nx := fun ρ z => ∃ ds, ρ[i]? = some (.own ds) ∧ R.nx (ρ.set i (.val (.lst ds))) z } (s0 :: ρ0) z := rfl
end
end Lay

set_option Elab.async false
set_option linter.all false
set_option maxRecDepth 100000
set_option maxHeartbeats 2000000
namespace Lay
open PySem PySem.Spec PyProof.Rows L2
/-! ### a pair: a thing taken out of a list of one's own, and a value -/
section
variable {X : Cx} {W : WX} {e b : Expr} {pos : Pos}
def dPopPair (i j l : Nat) (te t2 : DX D) : DTS := fun R ρ z => ∃ ds0, ρ[i]? = some (.own ds0) ∧ te ρ z (fun d ρ' z' => popD (ρ'[i]?) d fun v es => t2 (ρ'.set i (.own es)) z' (fun d2 ρ2 z2 => R.nx ((ρ2.set j (.val v)).set l (.val d2)) z2) R.ex) R.ex
theorem ap_dPopPair (i j l : Nat) (te t2 : DX D) (R : DEnds) (s0 : Sl) (ρ0 : List Sl) (z : Z) : dPopPair i j l te t2 R (s0 :: ρ0) z = ∃ ds0, (s0 :: ρ0)[i]? = some (.own ds0) ∧ te (s0 :: ρ0) z (fun d ρ' z' => popD (ρ'[i]?) d fun v es => t2 (ρ'.set i (.own es)) z' (fun d2 ρ2 z2 => R.nx ((ρ2.set j (.val v)).set l (.val d2)) z2) R.ex) R.ex := rfl
/-! ### dict(d), d a cell: a new cell -/
def dDictCp (t : DX (List D)) : DX D := fun ρ z R RX => t ρ z (fun ds ρ' z' => ∃ a ks es, ds = [.adr a] ∧ z'.m a = some (.dic ks es) ∧ ∀ b, ¬ z'.has b → R (.adr b) ρ' (z'.put b (.dic ks es))) RX
theorem ap_dDictCp (t : DX (List D)) (s0 : Sl) (ρ0 : List Sl) (z : Z) (R : D → List Sl → Z → Prop) (RX : KX) : dDictCp t (s0 :: ρ0) z R RX = t (s0 :: ρ0) z (fun ds ρ' z' => ∃ a ks es, ds = [.adr a] ∧ z'.m a = some (.dic ks es) ∧ ∀ b, ¬ z'.has b → R (.adr b) ρ' (z'.put b (.dic ks es))) RX := rfl
end
end Lay

set_option Elab.async false
set_option linter.all false
set_option maxRecDepth 100000
set_option maxHeartbeats 2000000
namespace Lay
open PySem PySem.Spec PyProof.Rows L2 SeqAt
/-! ### x != o, x of a built-in kind: the class's own == is asked behind; dicts at the left too -/
section
variable {prog : Program} {w : World} {A : Around} {E : Value → Shared → Prop} {s : Shared} {K : PySem.W.Frag} {x C f : Addr} {ox : Obj} {od : Option Obj}
end
/-- the class is not below dict -/
def NoDict (K : PySem.W.Frag) (C : Addr) : Prop := PySem.W.subIn K (.ref C) (.type "dict") = some false
section
variable {X : Cx} {j k : Nat} {C : Addr} {D : Addr → FuncData → Prop} {ps : List Str} {sp : Sp}
def leftV (K : PySem.W.Frag) (H : Hp) (x : V) : Prop := plainV x ∨ (∃ t xs, x = .ref t ∧ SqT K H t xs) ∨ (∃ t xs, x = .ref t ∧ SqL K H t xs) ∨ ∃ t o kvs, x = .ref t ∧ H t = some (.frz o (.dK kvs))
def rReqG (K : PySem.W.Frag) (C : Addr) (sp : Sp) (f : Bool → Bool) : R2 := fun x y H Q => ∃ a dx fs, y = .ref a ∧ leftV K H x ∧ H a = some (.ins C dx fs) ∧ sp [y, x] H (fun v H' => ∃ b : Bool, v = .bl b ∧ Q (.bl (f b)) H') E0
end
/-! ### the two sides of any kind, one of them of the class, or the left one of another class -/
def leftD : D → Prop
  | .str _ | .int _ | .bl _ | .non | .tup _ | .lst _ | .dic _ _ => True
  | _ => False
section
variable {X : Cx} {W : WX} {a b : Expr} {pos : Pos} {j k k2 : Nat} {C C2 : Addr} {D1 D2 : Addr → FuncData → Prop} {ps ps2 : List Str} {sp sp2 : PSp}
def dCmpG (K : PySem.W.Frag) (C C2 : Addr) (sp sp2 : PSp) (f : Bool → Bool) (ta tb : DX D) : DX D := fun ρ z R RX => ta ρ z (fun d1 ρ1 z1 => tb ρ1 z1 (fun d2 ρ2 z2 =>
  ((∃ ns ds, d1 = .ins C ns ds) ∧ (∃ t, tyD K d2 t ∧ PySem.W.notFirst K C t = true) ∧ sp [d1, d2] z2 (fun r z3 => match r with | .bl b => R (.bl (f b)) ρ2 z3 | _ => False) noP) ∨
  ((∃ ns ds, d2 = .ins C ns ds) ∧ leftD d1 ∧ sp [d2, d1] z2 (fun r z3 => match r with | .bl b => R (.bl (f b)) ρ2 z3 | _ => False) noP) ∨
  ((∃ ns ds, d1 = .ins C2 ns ds) ∧ (∃ t, tyD K d2 t ∧ PySem.W.notFirst K C2 t = true) ∧ sp2 [d1, d2] z2 (fun r z3 => match r with | .bl b => R (.bl (f b)) ρ2 z3 | _ => False) noP)) RX) RX
theorem ap_dCmpG (K : PySem.W.Frag) (C C2 : Addr) (sp sp2 : PSp) (f : Bool → Bool) (ta tb : DX D) (s0 : Sl) (ρ0 : List Sl) (z : Z) (R : D → List Sl → Z → Prop) (RX : KX) : dCmpG K C C2 sp sp2 f ta tb (s0 :: ρ0) z R RX = (ta (s0 :: ρ0) z (fun d1 ρ1 z1 => tb ρ1 z1 (fun d2 ρ2 z2 =>
  ((∃ ns ds, d1 = .ins C ns ds) ∧ (∃ t, tyD K d2 t ∧ PySem.W.notFirst K C t = true) ∧ sp [d1, d2] z2 (fun r z3 => match r with | .bl b => R (.bl (f b)) ρ2 z3 | _ => False) noP) ∨
  ((∃ ns ds, d2 = .ins C ns ds) ∧ leftD d1 ∧ sp [d2, d1] z2 (fun r z3 => match r with | .bl b => R (.bl (f b)) ρ2 z3 | _ => False) noP) ∨
  ((∃ ns ds, d1 = .ins C2 ns ds) ∧ (∃ t, tyD K d2 t ∧ PySem.W.notFirst K C2 t = true) ∧ sp2 [d1, d2] z2 (fun r z3 => match r with | .bl b => R (.bl (f b)) ρ2 z3 | _ => False) noP)) RX) RX) := rfl
end
end Lay

set_option Elab.async false
set_option linter.all false
set_option maxRecDepth 100000
set_option maxHeartbeats 2000000
namespace Lay
open PySem PySem.Spec PyProof.Rows L2 SeqAt
/-! ### x in (None, y), x and y of the class, y equal to x -/
section
variable {X : Cx} {j k : Nat} {C : Addr} {D' : Addr → FuncData → Prop} {ps : List Str} {pins : List (Addr × Obj)} {σ : L2.St}
def rInN (K : PySem.W.Frag) (C : Addr) (sp : Sp) (f : Bool → Bool) : R2 := fun x y H Q => ∃ (G : Hp → Prop) (a b t : Addr), x = .ref a ∧ y = .ref t ∧ SqT K H t [.non, .ref b] ∧ G H ∧
  (∀ H, G H → (∃ dx fs, H a = some (.ins C dx fs)) ∧ sp [.ref a, .non] H (fun v H' => v = .bl false ∧ G H') E0) ∧
  (∀ H, G H → (∃ dx fs, H b = some (.ins C dx fs)) ∧ (∃ dx fs, H a = some (.ins C dx fs)) ∧ sp [.ref b, .ref a] H (fun v H' => v = .bl true ∧ G H') E0) ∧ ∀ H', G H' → Q (.bl (f true)) H'
end
section
variable {X : Cx} {W : WX} {a b : Expr} {pos : Pos} {j k : Nat} {C : Addr} {D' : Addr → FuncData → Prop} {ps : List Str} {sp : PSp}
def dInN (C : Addr) (sp : PSp) (f : Bool → Bool) (ta tb : DX D) : DX D := fun ρ z R RX => ta ρ z (fun d1 ρ1 z1 => tb ρ1 z1 (fun d2 ρ2 z2 => ∃ d, d2 = .tup [.non, d] ∧ (∃ ns ds, d1 = .ins C ns ds) ∧ (∃ ns ds, d = .ins C ns ds) ∧
  sp [d1, .non] z2 (fun r z' => r = .bl false ∧ z' = z2) noP ∧ sp [d, d1] z2 (fun r z' => r = .bl true ∧ z' = z2) noP ∧ R (.bl (f true)) ρ2 z2) RX) RX
theorem ap_dInN (C : Addr) (sp : PSp) (f : Bool → Bool) (ta tb : DX D) (s0 : Sl) (ρ0 : List Sl) (z : Z) (R : D → List Sl → Z → Prop) (RX : KX) : dInN C sp f ta tb (s0 :: ρ0) z R RX = ta (s0 :: ρ0) z (fun d1 ρ1 z1 => tb ρ1 z1 (fun d2 ρ2 z2 => ∃ d, d2 = .tup [.non, d] ∧ (∃ ns ds, d1 = .ins C ns ds) ∧ (∃ ns ds, d = .ins C ns ds) ∧
  sp [d1, .non] z2 (fun r z' => r = .bl false ∧ z' = z2) noP ∧ sp [d, d1] z2 (fun r z' => r = .bl true ∧ z' = z2) noP ∧ R (.bl (f true)) ρ2 z2) RX) RX := rfl
end
end Lay

set_option Elab.async false
set_option linter.all false
set_option maxRecDepth 100000
set_option maxHeartbeats 2000000
namespace Lay
open PySem PySem.Spec PyProof.Rows L2
/-! ### a statement told while a cell that is a dict is read as a value (for k in d, d a cell) -/
theorem Rep.dicAt {K : PySem.W.Frag} {N : Addr → Prop} {H : Hp} {ks : List Key} {ds : List D} {a : Addr} : Rep K N H (.dic ks ds) (.ref a) ↔ ¬ N a ∧ ∃ od vs, H a = some (.frz od (.dK (ks.zip vs))) ∧ ks.length = ds.length ∧ Reps K N H ds vs := by
  rw [Rep]
  constructor
  · rintro ⟨b, od, vs, e, h1, h2, h3, h4⟩
    cases e
    exact ⟨h1, od, vs, h2, h3, h4⟩
  · rintro ⟨h1, od, vs, h2, h3, h4⟩
    exact ⟨a, od, vs, rfl, h1, h2, h3, h4⟩
/-- all slots but one hold no dict -/
def AllP : Nat → List Sl → Prop
  | _, [] => True
  | 0, _ :: ρ => ∀ s ∈ ρ, s.pure
  | i + 1, s :: ρ => s.pure ∧ AllP i ρ
theorem AllP.at : ∀ {i : Nat} {ρ : List Sl}, AllP i ρ → ∀ {j : Nat} {s : Sl}, j ≠ i → ρ[j]? = some s → s.pure
  | _, [], _, j, _, _, e => by simp at e
  | 0, _ :: ρ, h, j + 1, s, _, e => h s (List.mem_of_getElem? (by simpa using e))
  | 0, _ :: ρ, h, 0, s, n, e => absurd rfl n
  | i + 1, t :: ρ, h, 0, s, _, e => by cases e; exact h.1
  | i + 1, t :: ρ, h, j + 1, s, n, e => AllP.at (i := i) (j := j) h.2 (fun q => n (congrArg (· + 1) q)) (by simpa using e)
def dBorS (i : Nat) (t : DTS) : DTS := fun R ρ z => ∃ (a : Addr) (ks : List Key) (ds : List D), ρ[i]? = some (.val (.adr a)) ∧ z.m a = some (.dic ks ds) ∧
  t ⟨fun ρ' z' => z'.pure ∧ ¬ z'.has a ∧ ρ'[i]? = some (.lck a (.dic ks ds)) ∧ AllP i ρ' ∧ R.nx (ρ'.set i (.val (.adr a))) (z'.put a (.dic ks ds)), fun _ _ => False, fun _ _ _ _ _ => False, fun _ _ => False, fun _ _ => False⟩ (ρ.set i (.lck a (.dic ks ds))) (z.drop a)
theorem ap_dBorS (i : Nat) (t : DTS) (R : DEnds) (s0 : Sl) (ρ0 : List Sl) (z : Z) : dBorS i t R (s0 :: ρ0) z = ∃ (a : Addr) (ks : List Key) (ds : List D), (s0 :: ρ0)[i]? = some (.val (.adr a)) ∧ z.m a = some (.dic ks ds) ∧
  t ⟨fun ρ' z' => z'.pure ∧ ¬ z'.has a ∧ ρ'[i]? = some (.lck a (.dic ks ds)) ∧ AllP i ρ' ∧ R.nx (ρ'.set i (.val (.adr a))) (z'.put a (.dic ks ds)), fun _ _ => False, fun _ _ _ _ _ => False, fun _ _ => False, fun _ _ => False⟩ ((s0 :: ρ0).set i (.lck a (.dic ks ds))) (z.drop a) := rfl
section
variable {K : PySem.W.Frag} {M : Addr → Prop} {H H2 : Hp} {σ σ2 : L2.St} {ρ ρ' : List Sl} {z z' : Z} {O O' : Nat → Option Addr} {a : Addr} {ks : List Key} {ds : List D} {vs : List V} {od : Obj} {i : Nat}
theorem Wd.backS (w : Wd K M H σ ρ z O) (ha : z.m a = some (.dic ks ds)) (p1 : H a = some (.dK (ks.zip vs))) (l1 : ks.length = ds.length) (q1 : Reps K (NN M z O) H ds vs)
    (g : Go M (upd H a (.frz od (.dK (ks.zip vs)))) (z.drop a) O H2 z' O') (w2 : Wd K M H2 σ2 ρ' z' O') (hp : z'.pure) (hz : ¬ z'.has a) (hi2 : ρ'[i]? = some (.lck a (.dic ks ds))) (hs : AllP i ρ') :
    H2 a = some (.frz od (.dK (ks.zip vs))) ∧ Go M H z O (upd H2 a (.dK (ks.zip vs))) (z'.put a (.dic ks ds)) O' ∧ Wd K M (upd H2 a (.dK (ks.zip vs))) σ2 (ρ'.set i (.val (.adr a))) (z'.put a (.dic ks ds)) O' := by
  have za := Z.has_m ha
  have na := drop_free w ha
  have fa := g.st a _ upd_same na
  have na2 : ¬ NN M z' O' a := fun q => by
    rcases g.nw a q with q | q
    · exact na q
    · rw [upd_same] at q; cases q
  have nn : ∀ x, NN M (z'.put a (.dic ks ds)) O' x → NN M z' O' x ∨ x = a := fun x h => h.put
  have h3 : ∀ x, x ≠ a → upd H2 a (.dK (ks.zip vs)) x = H2 x := fun x h => upd_ne h
  have al2 : ∀ x, H2 x ≠ none → upd H2 a (.dK (ks.zip vs)) x ≠ none := fun x h => by
    by_cases q : x = a
    · rw [q, upd_same]; exact Option.some_ne_none _
    · rw [upd_ne q]; exact h
  have up : ∀ x o, x ≠ a → H x = some o → upd H a (.frz od (.dK (ks.zip vs))) x = some o := fun x o q h => by rw [upd_ne q]; exact h
  have g3 : Go M H z O (upd H2 a (.dK (ks.zip vs))) (z'.put a (.dic ks ds)) O' := by
    refine ⟨fun x o h n => ?_, fun x o m h => ?_, fun x h => ?_, fun x h => ?_, fun x h => ?_⟩
    · have hx : x ≠ a := fun e => n (by rw [e]; exact .inr (.inl za))
      rw [upd_ne hx]
      exact g.st x o (up x o hx h) fun q => n q.drop
    · have hx : x ≠ a := fun e => w.pm a za (by rw [← e]; exact m)
      rw [upd_ne hx]
      exact g.km x o m (up x o hx h)
    · rcases nn x h with q | q
      · rcases g.nw x q with q | q
        · exact .inl q.drop
        · by_cases hx : x = a
          · exact absurd q (by rw [hx, upd_same]; exact Option.some_ne_none _)
          · rw [upd_ne hx] at q; exact .inr q
      · exact .inl (.inr (.inl (by rw [q]; exact za)))
    · rcases Z.has_put h with q | q
      · rcases g.zp x q with q | q
        · exact .inl (Z.has_drop q)
        · by_cases hx : x = a
          · exact absurd q (by rw [hx, upd_same]; exact Option.some_ne_none _)
          · rw [upd_ne hx] at q; exact .inr q
      · exact .inl (by rw [q]; exact za)
    · refine al2 x (g.al x ?_)
      by_cases hx : x = a
      · rw [hx, upd_same]; exact Option.some_ne_none _
      · rw [upd_ne hx]; exact h
  have un : ∀ d v, noDic d → Rep K (NN M z' O') H2 d v → Rep K (NN M (z'.put a (.dic ks ds)) O') (upd H2 a (.dK (ks.zip vs))) d v := fun d v f r => Rep.unlock fa nn h3 d v f r
  obtain ⟨_, t1, t2⟩ := w2.sl i _ hi2
  obtain ⟨_, od', vs', t3, t4, t5⟩ := Rep.dicAt.mp t2
  have ez : ks.zip vs' = ks.zip vs := by
    rw [fa] at t3
    have := Option.some.inj t3
    injection this with _ q
    injection q with q
    exact q.symm
  have lq : vs.length = ks.length := by rw [← q1.length, l1]
  have lq' : vs'.length = ks.length := by rw [← t5.length, l1]
  have ev : vs' = vs := by
    have := congrArg (List.map Prod.snd) ez
    rwa [List.map_snd_zip (by omega), List.map_snd_zip (by omega)] at this
  subst ev
  refine ⟨fa, g3, ⟨by rw [List.length_set]; exact w2.len, fun x h => al2 x (w2.al x h), ⟨fun p h => ?_, fun x e h => ?_⟩, fun x h m => ?_, fun j x h => ?_, fun j s h => ?_, fun j h => w2.out j (by
    rw [List.getElem?_eq_none_iff] at h ⊢
    rw [List.length_set] at h
    exact h)⟩⟩
  · obtain ⟨o1, o2⟩ := w2.pot.pt p h
    have ne : p ≠ a := fun e => hz (.inl (by rw [← e]; exact h))
    exact ⟨o1.to fun o e => by rw [upd_ne ne]; exact e, by rw [Z.put_ne _ _ ne]; exact o2⟩
  · by_cases q : x = a
    · rw [q, Z.put_m] at h
      cases h
      rw [q]
      exact ⟨vs', upd_same, l1, Reps.mono g3.ext _ _ q1⟩
    · rw [Z.put_ne _ _ q] at h
      have pc := hp x e h
      have o1 := w2.pot.mm x e h
      cases e with
      | lst es =>
        obtain ⟨us, u1, u2⟩ := o1
        exact ⟨us, by rw [upd_ne q]; exact u1, Reps.unlock fa nn h3 _ _ pc u2⟩
      | dic js es =>
        obtain ⟨us, u1, u2, u3⟩ := o1
        exact ⟨us, by rw [upd_ne q]; exact u1, u2, Reps.unlock fa nn h3 _ _ pc u3⟩
  · rcases Z.has_put h with q | q
    · exact w2.pm x q m
    · exact w.pm a za (by rw [← q]; exact m)
  · obtain ⟨h1, h2, h4, h5⟩ := w2.ow j x h
    refine ⟨h1, fun q => ?_, al2 x h4, h5⟩
    rcases Z.has_put q with q | q
    · exact h2 q
    · exact na2 (.inr (.inr ⟨j, by rw [← q]; exact h⟩))
  · by_cases hj : i = j
    · subst hj
      rw [List.getElem?_set_self (lt_of_get hi2)] at h
      cases h
      obtain ⟨o1, o2, _⟩ := w2.sl i _ hi2
      exact ⟨o1, .ref a, o2, Rep.a⟩
    · rw [List.getElem?_set_ne hj] at h
      have q := hs.at (Ne.symm hj) h
      have o2 := w2.sl j s h
      cases s with
      | any => exact o2
      | val d =>
        obtain ⟨u1, v, u2, u3⟩ := o2
        exact ⟨u1, v, u2, un d v q u3⟩
      | _ => exact q.elim
end
section
variable {X : Cx} {W : WX} {st : Stmt} {e : Expr} {pos : Pos}
/-! ### sorted(d), d a dict that stays -/
def rSortedF : List V → Hp → VK → Prop := fun vs H Q => ∃ (a : Addr) (kvs : List (Key × V)) (xs : List Str), vs = [V.ref a] ∧ Rd H a (.dK kvs) ∧ kvs.map (·.1) = xs.map Sum.inr ∧ xs.length < 64 ∧
  ∀ (ys : List Str) (p : Addr), ys.Perm xs → sortedS ys = true → H p = none → Q (.ref p) (upd H p (.lst (ys.map V.str)))
def dSortF (t : DX D) : DX (List D) := fun ρ z R RX => t ρ z (fun d ρ1 z1 => ∃ ks ds xs, d = .dic ks ds ∧ ks = xs.map Sum.inr ∧ xs.length < 64 ∧ ∀ ys : List Str, ys.Perm xs → sortedS ys = true → R (ys.map D.str) ρ1 z1) RX
theorem ap_dSortF (t : DX D) (s0 : Sl) (ρ0 : List Sl) (z : Z) (R : List D → List Sl → Z → Prop) (RX : KX) : dSortF t (s0 :: ρ0) z R RX = t (s0 :: ρ0) z (fun d ρ1 z1 => ∃ ks ds xs, d = .dic ks ds ∧ ks = xs.map Sum.inr ∧ xs.length < 64 ∧ ∀ ys : List Str, ys.Perm xs → sortedS ys = true → R (ys.map D.str) ρ1 z1) RX := rfl
end
end Lay

set_option Elab.async false
set_option linter.all false
set_option maxRecDepth 100000
set_option maxHeartbeats 2000000
namespace Lay
open PySem PySem.Spec PyProof.Rows L2
open PySem.Sem (wp)
open MeetsSeq MeetsSeq2 MeetsSeq3 SeqRoads2
/-! ### enumerate(zip(a, b)) -/
abbrev ZipAt (h : Heap) (z TI TO : Addr) (v : Value) (f : Bool) : Prop := h.get? z = some { cls := .type "zip", dict := none, data := .fields #[v, .bool f, .bool false, .ref TI, .ref TO], slots := #[] }
/-- zip's mark of the pair it gave out last -/
def MarkOk (v : Value) : Prop := v = .none ∨ ∃ T : Nat, v = rawInt T
def ZpE (z TI TO i1 i2 : Addr) (St1 St2 : Nat → Heap → Prop) (i : Nat) (h : Heap) : Prop :=
  (∃ v f, ZipAt h z TI TO v f ∧ MarkOk v) ∧ IsTupOf2 h TI (.ref i1) (.ref i2) ∧ (∃ x y, IsTupOf2 h TO x y) ∧ St1 i h ∧ St2 i h
section
variable {prog : Program} {w : World} {A : Around} {E : Value → Shared → Prop} {s : Shared} {z TI TO i1 i2 : Addr} {fp1 fp2 : List Addr} {n1 n2 i : Nat} {P1 P2 : Nat → Value → Prop} {St1 St2 : Nat → Heap → Prop} {f : Bool} {v0 : Value} {a1 a2 : Value}
/-- the mark tells that the pair may be filled anew -/
def Free (prog : Program) (w : World) (A : Around) (z : Addr) (s : Shared) : Prop := ∀ (Q : Bool → Shared → Prop) (E : Value → Shared → Prop), Q true s → wpAny (model prog w) A (Builtin.SmallTypes.ownedTupleIsFree (.ref z)) Q E s
end
/-- the pairs of both, with their places, in new tuples -/
def IteZ (K : PySem.W.Frag) (p q : ZS) : It :=
  ⟨fun i H => ∃ (xs ys : List V) (x y : V), p.at K H xs ∧ q.at K H ys ∧ xs[i]? = some x ∧ ys[i]? = some y,
   fun i H v H' => ∃ T U x y, v = .ref U ∧ H T = none ∧ H U = none ∧ T ≠ U ∧ H' = upd (upd H T (.tup [x, y])) U (.tup [.int (i : Nat), .ref T]) ∧ (∀ xs, p.at K H xs → xs[i]? = some x) ∧ ∀ ys, q.at K H ys → ys[i]? = some y,
   fun i H => ∃ xs ys : List V, p.at K H xs ∧ q.at K H ys ∧ i ≤ xs.length ∧ i ≤ ys.length ∧ (i = xs.length ∨ i = ys.length)⟩
section
variable {X : Cx} {W : WX} {a b : Expr}
def iEnumZ (K : PySem.W.Frag) (ta : TA) : TI := fun σ H R => ta σ H fun vs H1 => ∃ p q xs ys v1 v2, vs = [v1, v2] ∧ ZS.val p v1 ∧ ZS.val q v2 ∧ p.at K H1 xs ∧ q.at K H1 ys ∧ R (IteZ K p q) H1
def enumZ : List D → (List D → Prop) → Prop := fun ds k => zipG ds fun es => k (es.mapIdx fun i d => .tup [.int i, d])
theorem e_enumZ (d1 d2 : D) (k : List D → Prop) : enumZ [d1, d2] k = iterD d1 fun ds => iterD d2 fun es => k ((zipD ds es).mapIdx fun i d => .tup [.int i, d]) := rfl
end
/-! ### x, y = [..], e: the first a list of one's own, a name a cell of a comprehension -/
section
variable {X : Cx} {W : WX} {a b : Expr} {pos : Pos}
end
end Lay

set_option Elab.async false
set_option linter.all false
set_option maxRecDepth 100000
set_option maxHeartbeats 3200000
/-! len(set(xs)) of unlike texts, any number: the steps of HandS/Strs (one text) with a longer loop -/
namespace Lay
open PySem PySem.Spec PyProof.Rows L2
section
variable {prog : Program} {w : World} {A : Around} {R : Result → Shared → Prop} {I : Addr} {fp wr : List Addr} {G : Array GenState → Array GenState → Prop} {n : Nat} {P : Nat → Value → Prop} {St : Nat → Shared → Prop}
end
section
variable {prog : Program} {w : World} {A : Around} {E : Value → Shared → Prop} {s : Shared}
end
section
variable {X : Cx} {W : WX} {e : Expr} {pos : Pos}
def tLenSetN (K : PySem.W.Frag) (ta : TE) : TE := fun σ H Q => ta σ H fun x H1 => ∃ l, ∃ xs : List Str, x = .ref l ∧ SqL K H1 l (xs.map V.str) ∧ xs.length < 4000 ∧ xs.Nodup ∧ Q (.int xs.length) H1
def dLenSet (t : DX D) : DX D := fun ρ z R RX => t ρ z (fun d ρ1 z1 => ∃ xs : List Str, d = .lst (xs.map .str) ∧ xs.length < 4000 ∧ xs.Nodup ∧ R (.int xs.length) ρ1 z1) RX
theorem ap_dLenSet (t : DX D) (s0 : Sl) (ρ0 : List Sl) (z : Z) (R : D → List Sl → Z → Prop) (RX : KX) : dLenSet t (s0 :: ρ0) z R RX = t (s0 :: ρ0) z (fun d ρ1 z1 => ∃ xs : List Str, d = .lst (xs.map .str) ∧ xs.length < 4000 ∧ xs.Nodup ∧ R (.int xs.length) ρ1 z1) RX := rfl
end
end Lay
namespace Lay
open PySem PySem.Spec PyProof.Rows L2
/-! ### sorted(xs), xs a list of texts -/
section
variable {X : Cx} {W : WX} {e : Expr} {pos : Pos}
def dSortS (t : DX D) : DX (List D) := fun ρ z R RX => t ρ z (fun d ρ1 z1 => ∃ xs : List Str, d = .lst (xs.map .str) ∧ xs.length < 64 ∧ ∀ ys : List Str, ys.Perm xs → sortedS ys = true → R (ys.map D.str) ρ1 z1) RX
theorem ap_dSortS (t : DX D) (s0 : Sl) (ρ0 : List Sl) (z : Z) (R : List D → List Sl → Z → Prop) (RX : KX) : dSortS t (s0 :: ρ0) z R RX = t (s0 :: ρ0) z (fun d ρ1 z1 => ∃ xs : List Str, d = .lst (xs.map .str) ∧ xs.length < 64 ∧ ∀ ys : List Str, ys.Perm xs → sortedS ys = true → R (ys.map D.str) ρ1 z1) RX := rfl
end
end Lay

set_option Elab.async false
set_option linter.all false
set_option maxRecDepth 100000
set_option maxHeartbeats 2000000
namespace Lay
open PySem PySem.Spec PyProof.Rows L2
section
variable {X : Cx}
theorem md_rfind : MtR X "str.rfind" (MtS X.K (str1D (fun _ _ => True) fun a b => .int (Txt.rfind a b))) := md_1' mt_rfind fun _ _ _ _ => .i
end
end Lay

set_option Elab.async false
set_option linter.all false
set_option maxRecDepth 100000
set_option maxHeartbeats 2000000
namespace K52
open PySem L2 Lay RZ SkE SX
def top (i : Nat) : Stmt := PySem.Challenge.pw_gridplaces_k52_lays_made.main.body.getD i (.Pass ⟨0, 0, 0, 0⟩)
/-! ### reading steps -/
local macro_rules | `(tactic| walk_at "side") => `(tactic| first | rfl | decide | exact ⟨by decide, by decide, by decide⟩ | exact ⟨by omega, by omega, by decide⟩ | (unfold CMulW; decide +kernel) | assumption | omega | exact Nat.le_of_ble_eq_true rfl | (show (0 : Int) < _; first | assumption | decide | omega) | exact Or.inl ⟨by omega, by omega⟩ | exact Or.inr ⟨by omega, by omega⟩ | exact ⟨by omega, by decide⟩ | exact Or.inr ⟨by (split <;> omega), by (split <;> omega)⟩)
local macro_rules | `(tactic| walk_at "at") => `(tactic| first | rfl | assumption)
local macro_rules | `(tactic| walk_at "rd1") => `(tactic| first
  | (refine ⟨_, rfl, ?_⟩)
  | (refine ⟨_, _, rfl, rfl, ?_⟩)
  | (refine ⟨_, _, _, _, rfl, rfl, SqL.of (by assumption), (by walk_at "at"), ?_⟩)
  | (refine ⟨_, _, _, _, rfl, rfl, SqT.of (by assumption), (by walk_at "at"), ?_⟩)
  | (refine ⟨_, _, _, _, rfl, rfl, (by assumption), (by walk_at "at"), ?_⟩)
  | (refine ⟨_, _, rfl, SqT.of upd_same, rfl, ?_⟩)
  | (refine ⟨_, _, rfl, Or.inl (by first | assumption | exact SqL.of (by assumption)), ?_⟩)
  | (refine ⟨_, _, rfl, Or.inr (by first | assumption | exact SqT.of (by assumption)), ?_⟩)
  | (refine ⟨_, _, _, _, _, rfl, (by assumption), (by exact Own.cl (by assumption)), (by exact Own.no (by assumption) _ (by simp)), rfl, ?_⟩)
  | (refine ⟨_, _, _, rfl, (by assumption), rfl, ?_⟩)
  | (refine ⟨_, _, rfl, ?_⟩)
  | (refine ⟨_, _, _, rfl, ?_⟩)
  | (refine Or.inl ⟨_, rfl, ?_⟩)
  | (refine Or.inr ⟨_, rfl, ?_⟩)
  | (refine And.intro (by walk_at "side") ?_))
local macro_rules | `(tactic| walk_at "rd") => `(tactic| repeat walk_at "rd1")

structure T52 (mg : Str → Option Value) : Prop where
  b_len : mg "len" = none
  b_abs : mg "abs" = none
  b_range : mg "range" = none
  b_int : mg "int" = none
  b_str : mg "str" = none
  b_repr : mg "repr" = none
  b_isinstance : mg "isinstance" = none
  b_tuple : mg "tuple" = none
  b_enumerate : mg "enumerate" = none
  b_min : mg "min" = none
  b_any : mg "any" = none
  b_all : mg "all" = none
  b_max : mg "max" = none
  b_bool : mg "bool" = none
  b_zip : mg "zip" = none
  b_reversed : mg "reversed" = none
  b_list : mg "list" = none
  b_sum : mg "sum" = none
  b_sorted : mg "sorted" = none
  b_set : mg "set" = none
  b_dict : mg "dict" = none
  b_ValueError : mg "ValueError" = none
  g_LETTER_SIGNS : ∃ t, mg "LETTER_SIGNS" = some (.str "ABCDEFGHJKLMNPQRSTUVWXYZ" t)
  g_FIGURE_SIGNS : ∃ t, mg "FIGURE_SIGNS" = some (.str "0123456789" t)
  g_MOST_LEVELS : ∃ t, mg "MOST_LEVELS" = some (.int 5 t)
  g_MOST_TURN : ∃ t, mg "MOST_TURN" = some (.int 100 t)
/-! ### signs by a word -/
abbrev letters : List Nat := [65, 66, 67, 68, 69, 70, 71, 72, 74, 75, 76, 77, 78, 80, 81, 82, 83, 84, 85, 86, 87, 88, 89, 90]
abbrev figs : List Nat := [48, 49, 50, 51, 52, 53, 54, 55, 56, 57]
def dig (c : Nat) : Bool := decide (48 ≤ c) && decide (c ≤ 57)
/-- the number that figures tell, where they tell one of the form -/
def manyOf : List Nat → Option Nat
  | [a] => if dig a && !(a == 48) then some (a - 48) else none
  | [a, b] => if dig a && dig b && !(a == 48) then some ((a - 48) * 10 + (b - 48)) else none
  | _ => none
def menu (l : List Nat) : List Nat := if l.take 1 = [65] then letters else if l.take 1 = [78] then figs else []
def signsOf (l : List Nat) : Option (List Nat) := match manyOf (l.drop 1) with
  | some m => if 2 ≤ m ∧ m ≤ (menu l).length then some ((menu l).take m) else none
  | none => none
theorem figs_str : Str.ofString "0123456789" = S figs := by decide +kernel
theorem letters_str : Str.ofString "ABCDEFGHJKLMNPQRSTUVWXYZ" = S letters := by decide +kernel
theorem cut_from1 (l : List Nat) : cutS (S l) (some 1) none = S (l.drop 1) := by
  unfold cutS
  rw [show (1 : Int) = ((1 : Nat) : Int) from rfl, HT.sIx_nat, HT.sIx_none]
  show S _ = S _
  congr 1
  rw [S_len]
  by_cases h : 1 ≤ l.length
  · rw [Nat.min_eq_left h]
    exact List.take_of_length_le (by simp)
  · have : l = [] := by cases l with | nil => rfl | cons a r => exact absurd (by simp) h
    subst this
    rfl
theorem cut_to (l : List Nat) (n : Nat) : cutS (S l) none (some (n : Int)) = S (l.take n) := by
  unfold cutS
  rw [HT.sIx_nat, HT.sIx_none]
  show S _ = S _
  congr 1
  rw [S_len, List.drop_zero, Nat.sub_zero]
  by_cases h : n ≤ l.length
  · rw [Nat.min_eq_left h]
  · rw [Nat.min_eq_right (by omega), List.take_of_length_le (Nat.le_refl _), List.take_of_length_le (by omega)]
theorem has_figs (c : Nat) : (S figs).cps.contains c = dig c := by
  unfold dig
  have e : (S figs).cps.contains c = decide (c ∈ figs) := by simp [S]
  rw [e, ← Bool.decide_and]
  refine decide_eq_decide.mpr ?_
  simp only [figs, List.mem_cons, List.not_mem_nil, or_false]
  omega
theorem strip1 (g : Nat → Bool) (a : Nat) : Txt.stripBy g true true (S [a]) = if g a then S [] else S [a] := by
  cases h : g a <;> simp [Txt.stripBy, stripSame, stripped, stripLo, stripHi, S, Str.length, List.takeWhile, h, Builtin.Str.strSub]
theorem strip2 (g : Nat → Bool) (a b : Nat) : Txt.stripBy g true true (S [a, b]) = if g a then (if g b then S [] else S [b]) else (if g b then S [a] else S [a, b]) := by
  cases h : g a <;> cases h2 : g b <;> simp [Txt.stripBy, stripSame, stripped, stripLo, stripHi, S, Str.length, List.takeWhile, h, h2, Builtin.Str.strSub]
theorem cut_to1 (l : List Nat) : cutS (S l) none (some 1) = S (l.take 1) := cut_to l 1
theorem menu_get (l : List Nat) : ((valV (mergeK [] [(.inr "A", V.str "ABCDEFGHJKLMNPQRSTUVWXYZ"), (.inr "N", V.str "0123456789")]) (.inr (S (l.take 1)))).getD (V.str "")) = V.str (S (menu l)) := by
  have eA : Str.ofString "A" = S [65] := by decide +kernel
  have eN : Str.ofString "N" = S [78] := by decide +kernel
  have e0 : Str.ofString "" = S [] := by decide +kernel
  rw [eA, eN, e0, figs_str, letters_str]
  unfold menu
  by_cases h : l.take 1 = [65]
  · rw [h]; rfl
  · by_cases h2 : l.take 1 = [78]
    · rw [h2]; rfl
    · have n1 : ¬ S [65] = S (l.take 1) := fun z => h (S_inj z).symm
      have n2 : ¬ S [78] = S (l.take 1) := fun z => h2 (S_inj z).symm
      rw [if_neg h, if_neg h2]
      have em : mergeK [] [((.inr (S [65]) : Key), V.str (S letters)), (.inr (S [78]), V.str (S figs))] = [(.inr (S [65]), V.str (S letters)), (.inr (S [78]), V.str (S figs))] := rfl
      have d1 : ¬ ((.inr (S [65]) : Key) = .inr (S (l.take 1))) := fun z => n1 (Sum.inr.inj z)
      have d2 : ¬ ((.inr (S [78]) : Key) = .inr (S (l.take 1))) := fun z => n2 (Sum.inr.inj z)
      rw [em]
      unfold valV
      simp only [List.find?, decide_eq_false d1, decide_eq_false d2]
      rfl
theorem int1 {a : Nat} (h : dig a = true) : PySem.intText? (S [a]) = some (((a - 48 : Nat)) : Int) := by
  have all : ∀ k : Fin 10, PySem.intText? (S [48 + k.val]) = some ((k.val : Nat) : Int) := by decide +kernel
  unfold dig at h
  simp only [Bool.and_eq_true, decide_eq_true_eq] at h
  have e := all ⟨a - 48, by omega⟩
  simp only [show 48 + (a - 48) = a by omega] at e
  exact e
theorem int2 {a b : Nat} (h : dig a = true) (h2 : dig b = true) : PySem.intText? (S [a, b]) = some ((((a - 48) * 10 + (b - 48) : Nat)) : Int) := by
  have all : ∀ k j : Fin 10, PySem.intText? (S [48 + k.val, 48 + j.val]) = some ((k.val * 10 + j.val : Nat) : Int) := by decide +kernel
  unfold dig at h h2
  simp only [Bool.and_eq_true, decide_eq_true_eq] at h h2
  have e := all ⟨a - 48, by omega⟩ ⟨b - 48, by omega⟩
  simp only [show 48 + (a - 48) = a by omega, show 48 + (b - 48) = b by omega] at e
  exact e
@[irreducible] def spSigns0 : Sp := fun vs H Q _ => ∃ (l : List Nat), vs = [.str (S l)] ∧ l.length ≤ 100000 ∧
  ∀ H', Same H H' → Q (match signsOf l with | some r => .str (S r) | none => .non) H'
section
variable {P : Program} {w : World} {K : PySem.W.Frag} {mg : Str → Option Value} {base : Heap} {f : Addr} {fd : FuncData}
abbrev s_signs_by : Stmt := (top 18)
abbrev signs_by.N : List Str := ["word", "signs", "figures", "many"]
abbrev signs_by.ps : List Str := ["word"]
theorem sc_signs_by : FnScope signs_by.N signs_by.ps (defScope s_signs_by) := ⟨rfl, rfl, rfl, by decide +kernel, rfl, by decide +kernel, by decide +kernel⟩
theorem ok_signs_by0 (F : Fun K "signs_by" "signs_by" s_signs_by f fd) (T : T52 mg) : FnG P w K mg base CX0 1 f fd signs_by.ps spSigns0 := by
  refine gbody F sc_signs_by (fun vs H Q E h => ?_) (fun cdv A outer s H vs Q E hr hg h => ?_)
  · unfold spSigns0 at h
    obtain ⟨l, rfl, _⟩ := h
    rfl
  · unfold spSigns0 at h
    obtain ⟨l, rfl, hl, k⟩ := h
    refine ⟨_, (pss_cons (ps_set (i := 1) sc_signs_by.nd rfl (Or.inl rfl) (pe_dget2 (hu_of hr) (pe_disp (pps_cons pe_str (pe_globS rfl T.g_LETTER_SIGNS) (pps_cons pe_str (pe_globS rfl T.g_FIGURE_SIGNS) pps_nil)) rfl rfl (List.cons_ne_nil _ _) (by decide)) (pe_slice sl_str (pv 0) po_none (po_some pe_int)) pe_str ⟨rfl, rfl, rfl, rfl⟩))
      (pss_cons (ps_set (i := 2) sc_signs_by.nd rfl (Or.inl rfl) (pe_slice sl_str (pv 0) (po_some pe_int) po_none))
      (pss_cons (ps_if (PW.pt (pw_or (pt_not (pt_chain op_le op_le pe_int (pe_callB call_len_str (by rfl) T.b_len PySem.boot_len (pa_cons (pv 2) pa_nil)) pe_int)) (pw_or (pt_cmpR op_ne (pe_bm PySem.F.plainAttrs_str PySem.F.slot_str_strip PySem.F.type_str_strip mt_stripChars (pv 2) (pa_cons (pe_globS rfl T.g_FIGURE_SIGNS) pa_nil)) pe_str (nomark _)) (pw_or1 (pt_cmpR op_eq (pe_ix ix_str (pv 2) pe_int (fun _ _ => rfl)) pe_str (nomark _)))))) (pss_one (ps_ret pe_non)) pss_nil)
      (pss_cons (ps_set (i := 3) sc_signs_by.nd rfl (Or.inl rfl) (pe_callTy call_int_str (by rfl) T.b_int (by decide +kernel) (pa_cons (pv 2) pa_nil)))
      (pss_cons (ps_if (pt_not (pt_chain op_le op_le pe_int (pv 3) (pe_callB call_len_str (by rfl) T.b_len PySem.boot_len (pa_cons (pv 1) pa_nil)))) (pss_one (ps_ret pe_non)) pss_nil)
      (pss_one (ps_ret (pe_slice sl_str (pv 1) po_none (po_some (pv 3)))))))))), ?_⟩
    intro p hp
    refine ⟨upd_same, [(.inr "A", V.str "ABCDEFGHJKLMNPQRSTUVWXYZ"), (.inr "N", V.str "0123456789")], rfl, by decide, ?_⟩
    refine ⟨p, rfl, .inl ⟨_, .inl upd_same⟩, ?_⟩
    have hS : (S l).length ≤ sizeLine := by rw [S_len]; exact Nat.le_trans hl (by decide)
    walk_at "rd"
    simp only [cut_to1]
    refine ⟨_, DGet.k (k := .inr (S (l.take 1))) upd_same, ?_⟩
    rw [menu_get]
    have sm : Same H (upd (upd H p (.dK [])) p (.dK (mergeK [] [(.inr "A", V.str "ABCDEFGHJKLMNPQRSTUVWXYZ"), (.inr "N", V.str "0123456789")]))) := same_to (same_new hp) hp
    generalize upd (upd H p (.dK [])) p (.dK (mergeK [] [(.inr "A", V.str "ABCDEFGHJKLMNPQRSTUVWXYZ"), (.inr "N", V.str "0123456789")])) = H1 at sm ⊢
    walk_at "rd"
    simp only [cut_from1]
    have hF : (S (l.drop 1)).length ≤ sizeLine := by
      rw [S_len, List.length_drop]
      rw [S_len] at hS
      omega
    have kk := k H1 sm
    unfold signsOf at kk
    generalize l.drop 1 = fg at hF kk ⊢
    refine ⟨hF, ?_⟩
    rw [S_len]
    have e0 : Str.ofString "" = S [] := by decide +kernel
    have eZ : Str.ofString "0" = S [48] := by decide +kernel
    match fg, hF, kk with
    | [], hF, kk =>
      walk_at "rd"
      simp only [Bool.not_false, if_true]
      exact kk
    | [a], hF, kk =>
      walk_at "rd"
      rw [figs_str, e0]
      unfold Txt.stripChars
      rw [strip1, has_figs]
      cases hd : dig a with
      | false =>
        refine iteNT (fun z => absurd (S_inj (V.str.inj z)) (by simp)) ?_
        simp only [manyOf, hd, Bool.false_and] at kk
        walk_at "rd"
        exact kk
      | true =>
        refine iteNF rfl ?_
        refine ⟨_, rfl, ?_⟩
        refine ⟨_, _, a, rfl, rfl, hF, rfl, ?_⟩
        rw [eZ]
        walk_at "rd"
        refine iteD (fun hz => ?_) (fun hz => ?_)
        · obtain rfl : a = 48 := by
            have := S_inj (V.str.inj hz)
            simpa using this
          walk_at "rd"
          exact kk
        · have ha : ¬ a = 48 := fun z => hz (by rw [z])
          walk_at "rd"
          have em : manyOf [a] = some (a - 48) := by simp [manyOf, hd, ha]
          rw [em] at kk
          refine ⟨S [a], _, rfl, int1 hd, by show (1 : Nat) ≤ 640; decide, ?_⟩
          walk_at "rd"
          generalize a - 48 = m at kk ⊢
          have hM : (S (menu l)).length ≤ sizeLine := by
            rw [S_len]
            unfold menu
            split
            · decide
            · split <;> decide
          refine iteD (fun h2 => ?_) (fun h2 => ?_)
          · walk_at "rd"
            rw [S_len]
            by_cases h3 : m ≤ (menu l).length
            · refine iteNF (show (m : Int) ≤ ((menu l).length : Int) by omega) ?_
              have e2 : (2 ≤ m ∧ m ≤ (menu l).length) := ⟨by omega, h3⟩
              simp only [e2, and_self, if_true] at kk
              walk_at "rd"
              rw [cut_to]
              exact kk
            · refine iteNT (show ¬ (m : Int) ≤ ((menu l).length : Int) by omega) ?_
              have e2 : ¬ (2 ≤ m ∧ m ≤ (menu l).length) := fun z => h3 z.2
              simp only [if_neg e2] at kk
              walk_at "rd"
              exact kk
          · have e2 : ¬ (2 ≤ m ∧ m ≤ (menu l).length) := fun z => h2 (by omega)
            simp only [if_neg e2] at kk
            walk_at "rd"
            exact kk
    | [a, b], hF, kk =>
      walk_at "rd"
      rw [figs_str, e0]
      unfold Txt.stripChars
      rw [strip2, has_figs, has_figs]
      cases hd : dig a with
      | false =>
        simp only [manyOf, hd, Bool.false_and] at kk
        refine iteNT (fun z => ?_) ?_
        · have q := V.str.inj z
          cases hd2 : dig b with
          | false => rw [hd2] at q; exact absurd (S_inj q) (by simp)
          | true => rw [hd2] at q; exact absurd (S_inj q) (by simp)
        · walk_at "rd"
          exact kk
      | true =>
        cases hd2 : dig b with
        | false =>
          simp only [manyOf, hd, hd2, Bool.and_false, Bool.false_and] at kk
          refine iteNT (fun z => absurd (S_inj (V.str.inj z)) (by simp)) ?_
          walk_at "rd"
          exact kk
        | true =>
          refine iteNF rfl ?_
          refine ⟨_, rfl, ?_⟩
          refine ⟨_, _, a, rfl, rfl, hF, rfl, ?_⟩
          rw [eZ]
          walk_at "rd"
          refine iteD (fun hz => ?_) (fun hz => ?_)
          · obtain rfl : a = 48 := by
              have := S_inj (V.str.inj hz)
              simpa using this
            walk_at "rd"
            have em : manyOf [48, b] = none := by simp [manyOf]
            rw [em] at kk
            exact kk
          · have ha : ¬ a = 48 := fun z => hz (by rw [z])
            walk_at "rd"
            have em : manyOf [a, b] = some ((a - 48) * 10 + (b - 48)) := by simp [manyOf, hd, hd2, ha]
            rw [em] at kk
            refine ⟨S [a, b], _, rfl, int2 hd hd2, by show (2 : Nat) ≤ 640; decide, ?_⟩
            walk_at "rd"
            generalize (a - 48) * 10 + (b - 48) = m at kk ⊢
            have hM : (S (menu l)).length ≤ sizeLine := by
              rw [S_len]
              unfold menu
              split
              · decide
              · split <;> decide
            refine iteD (fun h2 => ?_) (fun h2 => ?_)
            · walk_at "rd"
              rw [S_len]
              by_cases h3 : m ≤ (menu l).length
              · refine iteNF (show (m : Int) ≤ ((menu l).length : Int) by omega) ?_
                have e2 : (2 ≤ m ∧ m ≤ (menu l).length) := ⟨by omega, h3⟩
                simp only [e2, and_self, if_true] at kk
                walk_at "rd"
                rw [cut_to]
                exact kk
              · refine iteNT (show ¬ (m : Int) ≤ ((menu l).length : Int) by omega) ?_
                have e2 : ¬ (2 ≤ m ∧ m ≤ (menu l).length) := fun z => h3 z.2
                simp only [if_neg e2] at kk
                walk_at "rd"
                exact kk
            · have e2 : ¬ (2 ≤ m ∧ m ≤ (menu l).length) := fun z => h2 (by omega)
              simp only [if_neg e2] at kk
              walk_at "rd"
              exact kk
    | a :: b :: c :: r, hF, kk =>
      walk_at "rd"
      have e3 : ((a :: b :: c :: r).length : Int) = (r.length : Int) + 3 := by simp only [List.length_cons]; omega
      refine iteDT (by rw [e3]; omega) ?_
      walk_at "rd"
      refine iteNT (by rw [e3]; omega) ?_
      walk_at "rd"
      exact kk
end

/-! over trees -/
/-- a def that leaves the heap but for what is new -/
theorem fin_same {K : PySem.W.Frag} {M : Addr → Prop} {H H' : Hp} {z : Z} (s : Same H H') (pot : PotOk K (NN M z O0) H z) (pm : ∀ a, z.has a → ¬ M a) : Fin K M H z H' z :=
  ⟨pot.to ⟨fun a o h _ => s a o h, fun a h => .inl h⟩ fun a o _ q => s a o q, pm, fun a h => .inl h, fun a o h _ => s a o h, fun a h => by
    cases q : H a with
    | none => exact absurd q h
    | some o => rw [s a o q]; exact Option.some_ne_none _⟩
@[irreducible] def spSigns : PSp := fun ds z R _ => ∃ (l : List Nat), ds = [.str (S l)] ∧ l.length ≤ 100000 ∧ R (match signsOf l with | some r => .str (S r) | none => .non) z
theorem use_signs {l : List Nat} {z : Z} {R : D → Z → Prop} {E : PX} (hl : l.length ≤ 100000) (k : R (match signsOf l with | some r => .str (S r) | none => .non) z) : spSigns [.str (S l)] z R E := by
  unfold spSigns
  exact ⟨l, rfl, hl, k⟩
section
variable {P : Program} {w : World} {K : PySem.W.Frag} {mg : Str → Option Value} {base : Heap} {f : Addr} {fd : FuncData}
theorem ok_signs_by (F : Fun K "signs_by" "signs_by" s_signs_by f fd) (T : T52 mg) : FnG P w K mg base CX0 1 f fd signs_by.ps (lift K spSigns) := (ok_signs_by0 F T).imp fun vs H Q E h => by
  unfold lift at h
  obtain ⟨M, ds, z, R, RX, al, pot, pm, r, h, k1, k2⟩ := h
  unfold spSigns at h
  obtain ⟨l, rfl, hl, k⟩ := h
  obtain ⟨v, rfl, r1⟩ := reps1 r
  obtain rfl := RepP.str (z := z) (.inl r1)
  unfold spSigns0
  refine ⟨l, rfl, hl, fun H' sm => k1 _ z _ H' k (fin_same sm pot pm) ?_⟩
  cases signsOf l with
  | none => exact .n
  | some r => exact .s
end

/-! ### reading steps over trees -/
local macro_rules | `(tactic| walk_at "d") => `(tactic| try simp -implicitDefEqProofs only [cxK, noxK, wishK, startD, startI, List.map_cons, List.map_nil, List.length_cons, List.length_nil, List.length_singleton, Nat.zero_add, Nat.reduceAdd, Nat.reduceSub, Nat.add_one_sub_one, List.replicate_succ, List.replicate_zero, List.cons_append, List.nil_append, List.append_nil,
  ap_dVar, ap_dPeek, ap_dC, ap_dOp, ap_dTest, ap_dChain, ap_dTru, ap_dAndB, ap_dOrB, ap_dNotB, ap_dAnd, ap_dOr, ap_dNot, ap_dNil, ap_dCons, ap_dTup, ap_dLst, ap_dLet, ap_dSized, ap_dUn, ap_dNoPart, ap_dPart, ap_dSl, ap_dFn, ap_dMt, ap_dMt0, ap_dFs, ap_dFmt, ap_dJoin, ap_dNext, ap_dSeq, ap_dDrop, ap_dRet, ap_dIf, ap_dAsg, ap_dSet, ap_dOwn, ap_dAppend, ap_dAug, ap_dFldS, ap_dPar, ap_dPar3, ap_dIt, ap_dItA, ap_dFor, ap_dLc, ap_dYes, ap_dCall, ap_dCall0, ap_dCallKw, ap_dCallKw0, ap_dMeth, ap_dMeth0, ap_dMethKw, ap_dOne, ap_dFmtO, ap_dEqO, ap_dReqO, ap_dMake, ap_dMake0, ap_dMakeKw, ap_dMakeKw0, ap_dRaise, ap_dPair, ap_dCat, ex_obj1, ex_obj2, ex_ins1, ex_ins2, ex_str, ex_own, ex_val, ap_ix0, ap_ix1, ap_ix2, e_lenOk, e_isStr, le_sz0, le_sz1, le_sz2, le_sz3, le_sz4, le_sz5, le_sz6, le_sz7, le_sz8, ap_dIfE, ap_isD, ap_in1, ap_in2, ap_in3, ap_isi, ap_sum, ap_any, ap_dJs0, ap_dJs1, ap_dgName, ap_dgTup, ap_dgCons, ap_dgNil, ap_dTry, ap_dXf, e_tru1, e_tru2, e_tru3, e_tru4, e_tru5, e_tru6, e_tru7, e_fmtD1, e_fmtD2, e_iterD1, e_iterD2, e_iterD3, e_iterD4, e_addD1, e_addD2, e_addD3, e_addD4, e_subD1, e_mulD1, e_mulD2, e_mulD3, e_fdivD1, e_modD1, e_powD1, e_cmpD1, e_cmpD2, e_eqD1, e_eqD2, e_eqD3, e_eqD4, e_eqD5, e_eqD6, e_eqD7, e_eqD8, e_eqD9, e_eqD10, e_eqD11, e_eqD12, e_eqD13, e_eqD14, e_isNonD1, e_negD1, e_ixD1, e_ixD2, e_ixD3, e_ixD4, e_slD1, e_slD2, e_slD3, e_slD4, e_lenD1, e_lenD2, e_lenD3, e_lenD4, e_absD1, e_mmD1, e_intD1, e_intD2, e_intD3, e_strD1, e_strD2, e_tupleD1, e_tupleD2, e_tupleD3, e_listD1, e_listD2, e_listD3, e_splitD1, e_joinD1, e_joinD2, e_str1D1, e_iaddD1, e_iaddD2, e_imulD1, e_ifdivD1, e_enumD1, e_enumD2, e_zipF1, e_zipF2, e_rng11, e_rng21, e_rng31, e_fldD1, e_dixD1, e_dixD2, e_revSD1, e_catD1, ap_dTryK, ap_dSetX, kx_any, kx_val, kx_own, kx_exc, e_xfD, e_nonX, e_rngW, ap_dExtend, e_extD, ap_best, ap_dItR, e_revF1, e_revF2, e_revF3, ap_dTryN, ap_dRaiseU, ap_dSplitN, e_splitN, ap_dSetIx, e_setD, e_zipG, ap_dTupO, e_caseD, e_rngS, e_enumG, ap_dInO, ap_dPopSet, e_popD, ap_dAppPop, ap_dPairON, ap_dListN, e_listN1, e_listN2, e_listN3, e_listN4, ltD, leD, gtD, geD, minD, maxD, wipeD,
  List.set_cons_zero, List.set_cons_succ, List.getElem?_cons_zero, List.getElem?_cons_succ, List.length_set, if_true, if_false, Bool.false_eq_true, reduceIte, id, Bool.not_true, Bool.not_false, true_and, and_true, List.zip_cons_cons, List.zip_nil_right, List.zip_nil_left, reduceCtorEq, Option.some.injEq,
  Nat.reduceLT, Nat.reduceLeDiff, Nat.reduceEqDiff, and_self, ite_self, decide_true, decide_false, eq_self])
local macro_rules | `(tactic| walk_at "ds") => `(tactic| first | rfl | decide | assumption | omega | exact Nat.le_of_ble_eq_true rfl)

/-! ### the class Grid -/
/-- a text's words -/
def wordsOf (l : List Nat) : List (List Nat) := TL.spl [32] 0 [] l
theorem spl_len (Z : List Nat) : ∀ (l : List Nat) (k : Nat) (acc : List Nat), ∀ w ∈ TL.spl Z k acc l, w.length ≤ acc.length + l.length := by
  intro l
  induction l with
  | nil => intro k acc w hw; rw [TL.spl_nil] at hw; rw [List.mem_singleton.mp hw]; simp
  | cons c r ih =>
    intro k acc w hw
    rw [List.length_cons]
    cases k with
    | succ k =>
      have e : TL.spl Z (k + 1) acc (c :: r) = TL.spl Z k acc r := rfl
      rw [e] at hw
      have := ih k acc w hw
      omega
    | zero =>
      cases hp : TL.pre Z (c :: r) with
      | true =>
        rw [TL.spl_hit hp] at hw
        rcases List.mem_cons.mp hw with rfl | hw
        · omega
        · have := ih _ [] w hw
          rw [List.length_nil] at this
          omega
      | false =>
        rw [TL.spl_miss hp] at hw
        have := ih 0 (acc ++ [c]) w hw
        rw [List.length_append, List.length_singleton] at this
        omega
theorem words_len {l w : List Nat} (h : w ∈ wordsOf l) : w.length ≤ l.length := by
  have := spl_len [32] l 0 [] w h
  rw [List.length_nil] at this
  omega
/-- the first word that is none, by its number -/
def badAt : Nat → List (List Nat) → Option Nat
  | _, [] => none
  | i, w :: r => if i = 5 ∨ signsOf w = none then some i else badAt (i + 1) r
def strsD (al : List (List Nat)) : List D := al.map fun a => .str (S a)
section
variable {P : Program} {w : World} {K : PySem.W.Frag} {mg : Str → Option Value} {base : Heap} {f : Addr} {fd : FuncData} {CG CB CE : Addr}
abbrev s_BadGrid_init : Stmt := (inClass (top 5) 0)
abbrev BadGrid_init.N : List Str := ["self", "at"]
abbrev BadGrid_init.ps : List Str := ["self", "at"]
theorem sc_BadGrid_init : FnScope BadGrid_init.N BadGrid_init.ps (defScope s_BadGrid_init) := ⟨rfl, rfl, rfl, by decide +kernel, rfl, by decide +kernel, by decide +kernel⟩
theorem ok_BadGrid_init (F : Fun K "__init__" "BadGrid.__init__" s_BadGrid_init f fd) (O : OexC K CB) (hno : PySem.W.findIn K (.ref CB) "at" = some none) (B_GridError : GBase K mg "GridError" CE) :
    FnOk P w K mg base CX0 1 f fd BadGrid_init.ps (spX CB ["at"]) := by
  refine F.ok sc_BadGrid_init (fun vs H Q E h => ?_) (fun cdv A outer s H vs Q E hr h => ?_)
  · obtain ⟨a, ws, rfl, hl, _⟩ := h
    match ws, hl with
    | [_], _ => rfl
  · obtain ⟨a, ws, rfl, hl, ha, k⟩ := h
    match ws, hl with
    | [v], _ =>
      refine ⟨_, (pss_cons (ps_expr (pe_ginit rfl B_GridError.mgx B_GridError.sg B_GridError.rd B_GridError.vV (pa_cons (pv 0) (pa_cons pe_str pa_nil))))
      (pss_one (ps_ost (pv 0) (pv 1) rfl))), ?_⟩
      refine ⟨_, rfl, a, CB, _, rfl, by decide, O, ha, ?_⟩
      refine ⟨_, rfl, _, rfl, a, CB, rfl, O, hno, .inl ⟨ha, fun dx hd n => ?_⟩⟩
      exact k dx hd n
/-- a text and its signs, level by level -/
structure GOk (l : List Nat) (al : List (List Nat)) : Prop where
  len : l.length ≤ 100000
  bad : badAt 0 (wordsOf l) = none
  sg : (wordsOf l).map signsOf = al.map some
def gridD (CG : Addr) (l : List Nat) (al : List (List Nat)) : D := .ins CG ["text", "alphabets"] [.str (S l), .tup (strsD al)]
theorem badAt_len : ∀ {ws : List (List Nat)} {i : Nat}, i ≤ 5 → badAt i ws = none → i + ws.length ≤ 5
  | [], i, hi, _ => hi
  | w :: ws, i, hi, h => by
    unfold badAt at h
    split at h
    · cases h
    · rename_i hn
      have h5 : i ≠ 5 := fun e => hn (.inl e)
      have := badAt_len (i := i + 1) (by omega) h
      rw [List.length_cons]
      omega
theorem GOk.many {l : List Nat} {al : List (List Nat)} (g : GOk l al) : al.length ≤ 5 := by
  have h := badAt_len (Nat.zero_le 5) g.bad
  have e := congrArg List.length g.sg
  rw [List.length_map, List.length_map] at e
  omega
theorem signs_size {w r : List Nat} (h : signsOf w = some r) : 2 ≤ r.length ∧ r.length ≤ 24 := by
  unfold signsOf at h
  split at h
  · split at h
    · rename_i hm
      cases h
      have hl : (menu (w)).length ≤ 24 := by
        unfold menu
        split
        · decide
        · split <;> decide
      rw [List.length_take]
      omega
    · cases h
  · cases h
theorem GOk.size {l a : List Nat} {al : List (List Nat)} (g : GOk l al) (h : a ∈ al) : 2 ≤ a.length ∧ a.length ≤ 24 := by
  have : some a ∈ al.map some := List.mem_map_of_mem h
  rw [← g.sg] at this
  obtain ⟨w, _, e⟩ := List.mem_map.mp this
  exact signs_size e
theorem GOk.same {l : List Nat} {al am : List (List Nat)} (g : GOk l al) (h : GOk l am) : al = am := by
  have e := g.sg.symm.trans h.sg
  have e2 := congrArg (List.map fun o : Option (List Nat) => o.getD []) e
  simpa only [List.map_map, Function.comp_def, Option.getD_some, List.map_id'] using e2
theorem strsD_len (al : List (List Nat)) : (strsD al).length = al.length := List.length_map ..
theorem strsD_snoc (al : List (List Nat)) (r : List Nat) : strsD al ++ [.str (S r)] = strsD (al ++ [r]) := by unfold strsD; rw [List.map_append]; rfl
/-- Grid(text) -/
@[irreducible] def spGrid (K : PySem.W.Frag) (CB : Addr) : ISp := fun ds z R RX => (∃ l : List Nat, ds = [.str (S l)] ∧ l.length ≤ 100000 ∧
    (∀ al : List (List Nat), GOk l al → R ["text", "alphabets"] [.str (S l), .tup (strsD al)] z) ∧
    ∀ i, badAt 0 (wordsOf l) = some i → RX CB ["at"] [.int (i : Int)] z) ∨
  ∃ d t, ds = [d] ∧ tyD K d t ∧ PySem.W.kitOne K t (.type "str") = some false ∧ RX CB ["at"] [.non] z
abbrev s_Grid_init : Stmt := (inClass (top 19) 0)
abbrev Grid_init.N : List Str := ["self", "text", "alphabets", "at", "word", "signs"]
abbrev Grid_init.ps : List Str := ["self", "text"]
theorem sc_Grid_init : FnScope Grid_init.N Grid_init.ps (defScope s_Grid_init) := ⟨rfl, rfl, rfl, by decide +kernel, rfl, by decide +kernel, by decide +kernel⟩
theorem ok_Grid_init (F : Fun K "__init__" "Grid.__init__" s_Grid_init f fd) (O : Own K CG ["text", "alphabets"]) (X_BadGrid : ExcOk P w K mg base "BadGrid" CB ["at"] BadGrid_init.ps)
    (T : T52 mg) (C_signs_by : Callee P w K mg base CX0 1 "signs_by" s_signs_by signs_by.ps (lift K spSigns)) : FnG P w K mg base (L2.CX P w) 3 f fd Grid_init.ps (liftI K CG (spGrid K CB)) := by
  refine ibodyX F sc_Grid_init (fun ds z R RX h => ?_) fun cdv A outer s H E hr hg => ⟨_, (dss_cons (ds_if (dt_not (dt_truth (dp_of (de_fn (cd_isiK (K := K) rfl) (by rfl) T.b_isinstance (by decide +kernel) (da_cons (dp_var 1) (da_cons (dp_of (de_c (pe_bltn (v := .ty "str") (u := .type "str") (by rfl) T.b_str (by decide +kernel) rfl) (fun _ _ => Rep.t))) da_nil)))))) (dss_one (X_BadGrid.dRaise rfl rfl hr (takes_of rfl rfl rfl rfl) (das_cons de_non das_nil))) dss_nil)
      (dss_cons (ds_own (i := 2) sc_Grid_init.nd rfl (Or.inl rfl) (dn_lst das_nil))
      (dss_cons (ds_for (passes_of rfl) rfl (di_enum (by rfl) T.b_enumerate (das_cons (de_mt PySem.F.slot_str_split PySem.F.type_str_split md_split (dp_var 1) (da_cons (dp_of de_str) da_nil)) das_nil)) (dg_tup (n := 2) rfl (dgs_cons (dg_name (i := 3) sc_Grid_init.nd rfl (Or.inl rfl)) (dgs_cons (dg_name (i := 4) sc_Grid_init.nd rfl (Or.inl rfl)) dgs_nil))) (dss_cons (ds_set (i := 5) sc_Grid_init.nd rfl (Or.inl rfl) (C_signs_by.d0 rfl hr hg (atAll pass0) (das_cons (de_var 4) das_nil)))
      (dss_cons (ds_if (DWt.pt (dw_or (dt_cmp (od_eq hr.units) (dp_var 3) (dp_of (de_c (pe_globI rfl T.g_MOST_LEVELS) (fun _ _ => Rep.i))) (nomark _)) (dw_or1 (dt_cmp od_isN (dp_var 5) (dp_of de_non) (nomark _))))) (dss_one (X_BadGrid.dRaise rfl rfl hr (takes_of rfl rfl rfl rfl) (das_cons (de_var 3) das_nil))) dss_nil)
      (dss_one (ds_append (i := 2) rfl (de_var 5))))))
      (dss_cons (ds_fldS (i := 0) rfl (de_var 1) rfl)
      (dss_one (ds_fldS (i := 0) rfl (de_ty cd_tuple (by rfl) T.b_tuple (by decide +kernel) (da_cons (dp_var 2) da_nil)) rfl)))))), fun ds z R RX x h => ?_⟩
  · unfold spGrid at h
    rcases h with ⟨l, rfl, _⟩ | ⟨d, t, rfl, _⟩ <;> rfl
  · unfold spGrid at h
    rcases h with ⟨l, rfl, hl, k, k0⟩ | ⟨d, t, rfl, ht, hk, k0⟩
    · walk_at "d"
      refine ⟨.type "str", .type "str", true, rfl, rfl, rfl, ?_⟩
      walk_at "d"
      have eS : Txt.split (S l) (Str.ofString " ") = (wordsOf l).map S := by
        rw [show Str.ofString " " = S [32] by decide +kernel]
        exact split_S (List.cons_ne_nil _ _) (by decide)
      rw [eS]
      refine ⟨by decide, by rw [S_len]; exact Nat.le_trans (Nat.add_le_add_right hl 2) (by decide), ?_⟩
      generalize hw : wordsOf l = ws
      refine forD_inv (fun i ρ z' => ∃ al a3 a4 a5, ρ = [Sl.obj x CG [] [], .val (.str (S l)), .own (strsD al), a3, a4, a5] ∧ z' = z ∧ (ws.take i).map signsOf = al.map some ∧ badAt 0 ws = badAt i (ws.drop i) ∧ i ≤ 5)
        ⟨[], .any, .any, .any, rfl, rfl, rfl, rfl, by omega⟩ ?_ ?_
      · rintro i d ρ z' hd ⟨al, a3, a4, a5, rfl, rfl, h3, h4, hi⟩
        rw [List.getElem?_mapIdx, List.getElem?_map, List.getElem?_map] at hd
        cases ew : ws[i]? with
        | none => rw [ew] at hd; cases hd
        | some w =>
          rw [ew] at hd
          cases hd
          have hwl : w.length ≤ 100000 := Nat.le_trans (words_len (by rw [hw]; exact List.mem_of_getElem? ew)) hl
          have hdr : ws.drop i = w :: ws.drop (i + 1) := by
            obtain ⟨hi', e'⟩ := List.getElem?_eq_some_iff.mp ew
            rw [List.drop_eq_getElem_cons hi', e']
          have hlen : al.length = i := by
            have e := congrArg List.length h3
            rw [List.length_map, List.length_map, List.length_take] at e
            have := get_lt ew
            omega
          rw [hdr] at h4
          walk_at "d"
          refine use_signs hwl ?_
          walk_at "d"
          refine iteD (fun h5 => ?_) (fun h5 => ?_)
          · walk_at "d"
            exact k0 i (by rw [hw, h4]; unfold badAt; exact if_pos (.inl (by omega)))
          · cases hs : signsOf w with
            | none =>
              walk_at "d"
              exact k0 i (by rw [hw, h4]; unfold badAt; exact if_pos (.inr hs))
            | some r =>
              walk_at "d"
              refine ⟨by rw [strsD_len, hlen]; exact Nat.lt_of_le_of_lt hi (by decide), al ++ [r], _, _, _, congrArg (fun q => [_, _, Sl.own q, _, _, _]) (strsD_snoc al r), ?_, ?_, by omega⟩
              · rw [take_snoc ew, List.map_append, h3, List.map_append, List.map_singleton, List.map_singleton, hs]
              · rw [h4]
                have : ¬ (i = 5 ∨ signsOf w = none) := by
                  rintro (z | z)
                  · exact h5 (by omega)
                  · rw [hs] at z; cases z
                conv => lhs; unfold badAt
                rw [if_neg this]
      · rintro ρ z' ⟨al, a3, a4, a5, rfl, rfl, h3, h4, hi⟩
        have hn : (List.mapIdx (fun i d => D.tup [D.int (i : Nat), d]) (List.map D.str (List.map S ws))).length = ws.length := by rw [List.length_mapIdx, List.length_map, List.length_map]
        rw [hn, List.take_length] at h3
        rw [hn, List.drop_length] at h4
        walk_at "d"
        refine ⟨O.at (by simp), List.not_mem_nil, O.at (by simp), by decide, ?_⟩
        exact k al ⟨hl, by rw [hw]; exact h4, by rw [hw]; exact h3⟩
    · walk_at "d"
      refine ⟨t, .type "str", false, ht, rfl, hk, ?_⟩
      walk_at "d"
      exact k0
end

/-! the grid's methods -/
section
variable {P : Program} {w : World} {K : PySem.W.Frag} {mg : Str → Option Value} {base : Heap} {f : Addr} {fd : FuncData} {CG CB CE : Addr}
theorem gridD_ins (CG : Addr) (l : List Nat) (al : List (List Nat)) : ∃ ns ds, gridD CG l al = .ins CG ns ds := ⟨_, _, rfl⟩
theorem fld_text {CG : Addr} {l : List Nat} {al : List (List Nat)} {k : D → Prop} (O : Own K CG ["text", "alphabets"]) : fldD K "text" (gridD CG l al) k = k (.str (S l)) := fld_of (O.at (by simp)) rfl
theorem fld_alph {CG : Addr} {l : List Nat} {al : List (List Nat)} {k : D → Prop} (O : Own K CG ["text", "alphabets"]) : fldD K "alphabets" (gridD CG l al) k = k (.tup (strsD al)) := fld_of (O.at (by simp)) rfl
@[irreducible] def spGEq (K : PySem.W.Frag) (CG : Addr) : PSp := fun ds z R _ => ∃ l al d, ds = [gridD CG l al, d] ∧ l.length ≤ 100000 ∧
  ((∃ l2 al2, d = gridD CG l2 al2 ∧ R (.bl (decide (l = l2))) z) ∨ ∃ t, tyD K d t ∧ PySem.W.kitOne K t (.ref CG) = some false ∧ R (.bl false) z)
abbrev s_Grid_eq : Stmt := (inClass (top 19) 1)
abbrev Grid_eq.N : List Str := ["self", "other"]
abbrev Grid_eq.ps : List Str := ["self", "other"]
theorem sc_Grid_eq : FnScope Grid_eq.N Grid_eq.ps (defScope s_Grid_eq) := ⟨rfl, rfl, rfl, by decide +kernel, rfl, by decide +kernel, by decide +kernel⟩
theorem ok_Grid_eq (F : Fun K "__eq__" "Grid.__eq__" s_Grid_eq f fd) (O : Own K CG ["text", "alphabets"]) (T : T52 mg) (G_Grid : mg "Grid" = some (.ref CG)) : FnG P w K mg base CX0 1 f fd Grid_eq.ps (lift K (spGEq K CG)) := by
  refine dbody F sc_Grid_eq (fun ds z R RX h => ?_) fun cdv A outer s H E hr hg => ⟨_, (dss_one (ds_ret (de_and (de_fn (cd_isiK (K := K) rfl) (by rfl) T.b_isinstance (by decide +kernel) (da_cons (dp_var 1) (da_cons (dp_of (de_c (pe_globR rfl G_Grid) (fun _ _ => Rep.a))) da_nil))) (de_one (de_cmp (od_eq hr.units) (dp_of (de_fldK (K := K) rfl (dp_var 0) rfl)) (dp_of (de_fldK (K := K) rfl (dp_var 1) rfl)) (nomark _)))))), fun ds z R RX h => ?_⟩
  · unfold spGEq at h
    obtain ⟨l, al, d, rfl, _⟩ := h
    rfl
  · unfold spGEq at h
    obtain ⟨l, al, d, rfl, hl, ⟨l2, al2, rfl, k⟩ | ⟨t, ht, hk, k⟩⟩ := h
    · walk_at "d"
      refine ⟨.ref CG, .ref CG, true, ⟨rfl, O.oty⟩, rfl, kit_self, ?_⟩
      walk_at "d"
      rw [fld_text O]
      walk_at "d"
      rw [fld_text O]
      walk_at "d"
      have e : decide (S l = S l2) = decide (l = l2) := by
        by_cases h : l = l2
        · rw [decide_eq_true h, decide_eq_true (by rw [h])]
        · rw [decide_eq_false h, decide_eq_false (fun z => h (S_inj z))]
      rw [e]
      exact k
    · walk_at "d"
      refine ⟨t, .ref CG, false, ht, rfl, hk, ?_⟩
      walk_at "d"
      exact k
@[irreducible] def spGLen (CG : Addr) : PSp := fun ds z R _ => ∃ l al, ds = [gridD CG l al] ∧ R (.int al.length) z
abbrev s_Grid_len : Stmt := (inClass (top 19) 2)
abbrev Grid_len.N : List Str := ["self"]
abbrev Grid_len.ps : List Str := ["self"]
theorem sc_Grid_len : FnScope Grid_len.N Grid_len.ps (defScope s_Grid_len) := ⟨rfl, rfl, rfl, by decide +kernel, rfl, by decide +kernel, by decide +kernel⟩
theorem ok_Grid_len (F : Fun K "__len__" "Grid.__len__" s_Grid_len f fd) (O : Own K CG ["text", "alphabets"]) (T : T52 mg) : FnG P w K mg base CX0 1 f fd Grid_len.ps (lift K (spGLen CG)) := by
  refine dbody F sc_Grid_len (fun ds z R RX h => ?_) fun cdv A outer s H E hr hg => ⟨_, (dss_one (ds_ret (de_fn cd_len (by rfl) T.b_len (by decide +kernel) (da_cons (dp_of (de_fldK (K := K) rfl (dp_var 0) rfl)) da_nil)))), fun ds z R RX h => ?_⟩
  · unfold spGLen at h
    obtain ⟨l, al, rfl, _⟩ := h
    rfl
  · unfold spGLen at h
    obtain ⟨l, al, rfl, k⟩ := h
    walk_at "d"
    rw [fld_alph O]
    walk_at "d"
    rw [strsD_len]
    exact k
@[irreducible] def spGStr (CG : Addr) : PSp := fun ds z R _ => ∃ l al, ds = [gridD CG l al] ∧ R (.str (S l)) z
abbrev s_Grid_str : Stmt := (inClass (top 19) 3)
abbrev Grid_str.N : List Str := ["self"]
abbrev Grid_str.ps : List Str := ["self"]
theorem sc_Grid_str : FnScope Grid_str.N Grid_str.ps (defScope s_Grid_str) := ⟨rfl, rfl, rfl, by decide +kernel, rfl, by decide +kernel, by decide +kernel⟩
theorem ok_Grid_str (F : Fun K "__str__" "Grid.__str__" s_Grid_str f fd) (O : Own K CG ["text", "alphabets"]) (T : T52 mg) : FnG P w K mg base CX0 1 f fd Grid_str.ps (lift K (spGStr CG)) := by
  refine dbody F sc_Grid_str (fun ds z R RX h => ?_) fun cdv A outer s H E hr hg => ⟨_, (dss_one (ds_ret (de_ty cd_str (by rfl) T.b_str (by decide +kernel) (da_cons (dp_of (de_fldK (K := K) rfl (dp_var 0) rfl)) da_nil)))), fun ds z R RX h => ?_⟩
  · unfold spGStr at h
    obtain ⟨l, al, rfl, _⟩ := h
    rfl
  · unfold spGStr at h
    obtain ⟨l, al, rfl, k⟩ := h
    walk_at "d"
    rw [fld_text O]
    walk_at "d"
    exact k
def greprL (l : List Nat) : List Nat := [71, 114, 105, 100, 40, 39] ++ l ++ [39, 41]
@[irreducible] def spGRepr (CG : Addr) : PSp := fun ds z R _ => ∃ l al, ds = [gridD CG l al] ∧ l.length ≤ 100000 ∧ R (.str (S (greprL l))) z
abbrev s_Grid_repr : Stmt := (inClass (top 19) 4)
abbrev Grid_repr.N : List Str := ["self"]
abbrev Grid_repr.ps : List Str := ["self"]
theorem sc_Grid_repr : FnScope Grid_repr.N Grid_repr.ps (defScope s_Grid_repr) := ⟨rfl, rfl, rfl, by decide +kernel, rfl, by decide +kernel, by decide +kernel⟩
theorem ok_Grid_repr (F : Fun K "__repr__" "Grid.__repr__" s_Grid_repr f fd) (O : Own K CG ["text", "alphabets"]) (T : T52 mg) : FnG P w K mg base CX0 1 f fd Grid_repr.ps (lift K (spGRepr CG)) := by
  refine dbody F sc_Grid_repr (fun ds z R RX h => ?_) fun cdv A outer s H E hr hg => ⟨_, (dss_one (ds_ret (de_joined (pj_cons df_str (pj_cons (df_fmt (dp_of (de_fldK (K := K) rfl (dp_var 0) rfl))) (pj_cons df_str pj_nil)))))), fun ds z R RX h => ?_⟩
  · unfold spGRepr at h
    obtain ⟨l, al, rfl, _⟩ := h
    rfl
  · unfold spGRepr at h
    obtain ⟨l, al, rfl, hl, k⟩ := h
    walk_at "d"
    rw [fld_text O]
    walk_at "d"
    rw [show Str.ofString "Grid('" = S [71, 114, 105, 100, 40, 39] by decide +kernel, show Str.ofString "')" = S [39, 41] by decide +kernel, show Str.empty = S [] from rfl, S_cat, S_cat, S_cat, S_len, S_len, S_len, S_len]
    have hz : 100010 ≤ sizeLine := by decide
    refine ⟨by decide, by omega, by rw [List.length_append]; show 6 + _ ≤ _; omega, by rw [List.length_append, List.length_append]; show 6 + _ + 2 ≤ _; omega, k⟩
@[irreducible] def spAlphabet (CG : Addr) : PSp := fun ds z R _ => ∃ (l : List Nat) (al : List (List Nat)) (k : Nat) (a : List Nat), ds = [gridD CG l al, .int ((k : Int) + 1)] ∧ al[k]? = some a ∧ R (.str (S a)) z
abbrev s_Grid_alphabet : Stmt := (inClass (top 19) 5)
abbrev Grid_alphabet.N : List Str := ["self", "level"]
abbrev Grid_alphabet.ps : List Str := ["self", "level"]
theorem sc_Grid_alphabet : FnScope Grid_alphabet.N Grid_alphabet.ps (defScope s_Grid_alphabet) := ⟨rfl, rfl, rfl, by decide +kernel, rfl, by decide +kernel, by decide +kernel⟩
theorem ok_Grid_alphabet (F : Fun K "alphabet" "Grid.alphabet" s_Grid_alphabet f fd) (O : Own K CG ["text", "alphabets"]) : FnG P w K mg base CX0 1 f fd Grid_alphabet.ps (lift K (spAlphabet CG)) := by
  refine dbody F sc_Grid_alphabet (fun ds z R RX h => ?_) fun cdv A outer s H E hr hg => ⟨_, (dss_one (ds_ret (de_ix od_ix (dp_of (de_fldK (K := K) rfl (dp_var 0) rfl)) (dp_of (de_op od_sub (dp_var 1) (dp_of de_int))) (fun _ _ => rfl)))), fun ds z R RX h => ?_⟩
  · unfold spAlphabet at h
    obtain ⟨l, al, k, a, rfl, _⟩ := h
    rfl
  · unfold spAlphabet at h
    obtain ⟨l, al, k, a, rfl, ha, k⟩ := h
    walk_at "d"
    rw [fld_alph O]
    walk_at "d"
    rw [Int.add_sub_cancel]
    exact ⟨_, atI_nat (by unfold strsD; rw [List.getElem?_map, ha]; rfl), k⟩
@[irreducible] def spCut (CG : Addr) : PSp := fun ds z R _ => ∃ (l : List Nat) (al : List (List Nat)) (k : Nat) (a : List Nat), ds = [gridD CG l al, .int ((k : Int) + 1)] ∧ al[k]? = some a ∧ a.length ≤ 100 ∧ R (.int a.length) z
abbrev s_Grid_cut : Stmt := (inClass (top 19) 6)
abbrev Grid_cut.N : List Str := ["self", "level"]
abbrev Grid_cut.ps : List Str := ["self", "level"]
theorem sc_Grid_cut : FnScope Grid_cut.N Grid_cut.ps (defScope s_Grid_cut) := ⟨rfl, rfl, rfl, by decide +kernel, rfl, by decide +kernel, by decide +kernel⟩
theorem ok_Grid_cut (F : Fun K "cut" "Grid.cut" s_Grid_cut f fd) (O : Own K CG ["text", "alphabets"]) (T : T52 mg) (C_Grid_alphabet : Method P w K mg base CX0 1 CG "alphabet" (dR s_Grid_alphabet "alphabet" "Grid.alphabet" K) Grid_alphabet.ps (lift K (spAlphabet CG))) : FnG P w K mg base CX0 2 f fd Grid_cut.ps (lift K (spCut CG)) := by
  refine dbody F sc_Grid_cut (fun ds z R RX h => ?_) fun cdv A outer s H E hr hg => ⟨_, (dss_one (ds_ret (de_fn cd_len (by rfl) T.b_len (by decide +kernel) (da_cons (dp_of (C_Grid_alphabet.d0 (de_var 0) hr hg (atAll pass0) (das_cons (de_var 1) das_nil))) da_nil)))), fun ds z R RX h => ?_⟩
  · unfold spCut at h
    obtain ⟨l, al, k, a, rfl, _⟩ := h
    rfl
  · unfold spCut at h
    obtain ⟨l, al, k, a, rfl, ha, hl, k⟩ := h
    walk_at "d"
    refine ⟨⟨_, _, rfl, by decide⟩, ?_⟩
    unfold spAlphabet
    refine ⟨l, al, _, a, rfl, ha, ?_⟩
    walk_at "d"
    rw [S_len]
    exact ⟨Nat.le_trans hl (by decide), k⟩
def prodL : List (List Nat) → Int
  | [] => 1
  | a :: r => a.length * prodL r
theorem prodL_bd : ∀ {ws : List (List Nat)}, (∀ a ∈ ws, 2 ≤ a.length ∧ a.length ≤ 24) → 1 ≤ prodL ws ∧ prodL ws ≤ 24 ^ ws.length
  | [], _ => ⟨by decide, by decide⟩
  | w :: ws, h => by
    obtain ⟨h1, h2⟩ := prodL_bd fun a m => h a (List.mem_cons_of_mem _ m)
    obtain ⟨h3, h4⟩ := h w List.mem_cons_self
    show 1 ≤ (w.length : Int) * prodL ws ∧ (w.length : Int) * prodL ws ≤ 24 ^ (ws.length + 1)
    have e : (24 : Int) ^ (ws.length + 1) = 24 * 24 ^ ws.length := by rw [Int.pow_succ, Int.mul_comm]
    rw [e]
    refine ⟨?_, Int.mul_le_mul (by omega) h2 (by omega) (by omega)⟩
    have : (1 : Int) * 1 ≤ w.length * prodL ws := Int.mul_le_mul (by omega) h1 (by omega) (by omega)
    omega
theorem GOk.sub {l : List Nat} {al ws : List (List Nat)} (g : GOk l al) (h : ∀ a ∈ ws, a ∈ al) (hl : ws.length ≤ al.length) : 1 ≤ prodL ws ∧ prodL ws ≤ 7962624 := by
  obtain ⟨h1, h2⟩ := prodL_bd (ws := ws) fun a m => g.size (h a m)
  have h3 : ws.length ≤ 5 := Nat.le_trans hl g.many
  have h4 : (24 : Int) ^ ws.length ≤ 24 ^ 5 := by exact_mod_cast Nat.pow_le_pow_right (by decide : 0 < 24) h3
  exact ⟨h1, Int.le_trans h2 (Int.le_trans h4 (by decide))⟩
@[irreducible] def spSide (CG : Addr) : PSp := fun ds z R _ => ∃ (l : List Nat) (al : List (List Nat)) (k : Nat), ds = [gridD CG l al, .int (k : Int)] ∧ GOk l al ∧ k ≤ al.length ∧ R (.int (prodL (al.drop k))) z
end

/-! ### reading steps over trees -/
local macro_rules | `(tactic| walk_at "d") => `(tactic| try simp -implicitDefEqProofs only [cxK, noxK, wishK, startD, startI, List.map_cons, List.map_nil, List.length_cons, List.length_nil, List.length_singleton, Nat.zero_add, Nat.reduceAdd, Nat.reduceSub, Nat.add_one_sub_one, List.replicate_succ, List.replicate_zero, List.cons_append, List.nil_append, List.append_nil,
  ap_dVar, ap_dPeek, ap_dC, ap_dOp, ap_dTest, ap_dChain, ap_dTru, ap_dAndB, ap_dOrB, ap_dNotB, ap_dAnd, ap_dOr, ap_dNot, ap_dNil, ap_dCons, ap_dTup, ap_dLst, ap_dLet, ap_dSized, ap_dUn, ap_dNoPart, ap_dPart, ap_dSl, ap_dFn, ap_dMt, ap_dMt0, ap_dFs, ap_dFmt, ap_dJoin, ap_dNext, ap_dSeq, ap_dDrop, ap_dRet, ap_dIf, ap_dAsg, ap_dSet, ap_dOwn, ap_dAppend, ap_dAug, ap_dFldS, ap_dPar, ap_dPar3, ap_dIt, ap_dItA, ap_dFor, ap_dLc, ap_dYes, ap_dCall, ap_dCall0, ap_dCallKw, ap_dCallKw0, ap_dMeth, ap_dMeth0, ap_dMethKw, ap_dOne, ap_dFmtO, ap_dEqO, ap_dReqO, ap_dMake, ap_dMake0, ap_dMakeKw, ap_dMakeKw0, ap_dRaise, ap_dPair, ap_dCat, ex_obj1, ex_obj2, ex_ins1, ex_ins2, ex_str, ex_own, ex_val, ap_ix0, ap_ix1, ap_ix2, e_lenOk, e_isStr, le_sz0, le_sz1, le_sz2, le_sz3, le_sz4, le_sz5, le_sz6, le_sz7, le_sz8, ap_dIfE, ap_isD, ap_in1, ap_in2, ap_in3, ap_isi, ap_sum, ap_any, ap_dJs0, ap_dJs1, ap_dgName, ap_dgTup, ap_dgCons, ap_dgNil, ap_dTry, ap_dXf, e_tru1, e_tru2, e_tru3, e_tru4, e_tru5, e_tru6, e_tru7, e_fmtD1, e_fmtD2, e_iterD1, e_iterD2, e_iterD3, e_iterD4, e_addD1, e_addD2, e_addD3, e_addD4, e_subD1, e_mulD1, e_mulD2, e_mulD3, e_fdivD1, e_modD1, e_powD1, e_cmpD1, e_cmpD2, e_eqD1, e_eqD2, e_eqD3, e_eqD4, e_eqD5, e_eqD6, e_eqD7, e_eqD8, e_eqD9, e_eqD10, e_eqD11, e_eqD12, e_eqD13, e_eqD14, e_isNonD1, e_negD1, e_ixD1, e_ixD2, e_ixD3, e_ixD4, e_slD1, e_slD2, e_slD3, e_slD4, e_lenD1, e_lenD2, e_lenD3, e_lenD4, e_absD1, e_mmD1, e_intD1, e_intD2, e_intD3, e_strD1, e_strD2, e_tupleD1, e_tupleD2, e_tupleD3, e_listD1, e_listD2, e_listD3, e_splitD1, e_joinD1, e_joinD2, e_str1D1, e_iaddD1, e_iaddD2, e_imulD1, e_ifdivD1, e_enumD1, e_enumD2, e_zipF1, e_zipF2, e_rng11, e_rng21, e_rng31, e_fldD1, e_dixD1, e_dixD2, e_revSD1, e_catD1, ap_dTryK, ap_dSetX, kx_any, kx_val, kx_own, kx_exc, e_xfD, e_nonX, e_rngW, ap_dExtend, e_extD, ap_best, ap_dItR, e_revF1, e_revF2, e_revF3, ap_dTryN, ap_dRaiseU, ap_dSplitN, e_splitN, ap_dSetIx, e_setD, e_zipG, ap_dTupO, e_caseD, e_rngS, e_enumG, ap_dInO, ap_dPopSet, e_popD, ap_dAppPop, ap_dPairON, ap_dListN, e_listN1, e_listN2, e_listN3, e_listN4, e_isB, ap_dIsX, ap_dgLst, ap_dReprT, ap_dBoolO, ap_dEqG, e_shlD1, e_eqE, ap_dPar3O, ap_bestT, ap_dPar3E, e_kin, e_kix, e_index, ap_dPut2, ap_dDic2, ap_getD2, ap_dItK, ap_dTwoE, ap_dAppA, ap_dTwo, ap_dZipN, ap_dCallV, ap_dIsE, e_zipG3, e_mm3, ap_dPar3EN, ap_dVals0, ap_dVals, ap_dMemD, ap_dMem, ap_dMixL, ap_dMixK, ap_dMsetL, ap_dMsetK, ap_dFrz, e_mixL, e_msetL, e_mulBD, Z.put_put, ap_dInsert0, ap_dMslL, e_mslL, ap_dDictP, e_dictPD, ltD, leD, gtD, geD, minD, maxD, wipeD,
  List.set_cons_zero, List.set_cons_succ, List.getElem?_cons_zero, List.getElem?_cons_succ, List.length_set, if_true, if_false, Bool.false_eq_true, reduceIte, id, Bool.not_true, Bool.not_false, true_and, and_true, List.zip_cons_cons, List.zip_nil_right, List.zip_nil_left, reduceCtorEq, Option.some.injEq,
  Nat.reduceLT, Nat.reduceLeDiff, Nat.reduceEqDiff, and_self, ite_self, decide_true, decide_false, eq_self])
local macro_rules | `(tactic| walk_at "ds") => `(tactic| first | rfl | decide | assumption | omega | exact Nat.le_of_ble_eq_true rfl)

theorem cutL_take {α : Type} (xs : List α) (k : Nat) : cutL xs none (some (k : Int)) = xs.take k := by
  unfold cutL
  rw [HT.sIx_nat, HT.sIx_none, List.drop_zero, Nat.sub_zero]
  by_cases h : k ≤ xs.length
  · rw [Nat.min_eq_left h]
  · rw [Nat.min_eq_right (by omega), List.take_of_length_le (Nat.le_refl _), List.take_of_length_le (by omega)]
theorem rngD_get {lo : Int} {n i : Nat} {d : D} (h : (rngD lo n)[i]? = some d) : i < n ∧ d = .int (lo + i) := by
  unfold rngD at h
  rw [List.getElem?_map] at h
  obtain ⟨j, e0, rfl⟩ := Option.map_eq_some_iff.mp h
  have hi := lt_of_get e0
  rw [List.length_range] at hi
  rw [List.getElem?_range hi] at e0
  cases e0
  exact ⟨hi, rfl⟩
theorem rngD_len (lo : Int) (n : Nat) : (rngD lo n).length = n := by unfold rngD; rw [List.length_map, List.length_range]

theorem pickG {xs : List D} {i : Int} {Pd : D → Prop} {k : D → Prop} (h0 : 0 ≤ i) (h1 : i < xs.length) (ha : ∀ d ∈ xs, Pd d) (hk : ∀ d, Pd d → k d) : ∃ d, atI xs i = some d ∧ k d := by
  obtain ⟨d, e, m⟩ := atI_mem h0 h1
  exact ⟨d, e, hk d (ha d m)⟩
/-! ### the pot of the lays: a dict with the cells, the next one's place, what is left of a great one, a seed -/
def potKs : List Key := [.inr "cells", .inr "at", .inr "left", .inr "seed"]
def potC (cs : List Int) (at_ left seed : Int) : Cell := .dic potKs [.lst (cs.map .int), .int at_, .int left, .int seed]
section
variable {p : Addr} {zb : Z} {cs : List Int} {a l s x : Int} {k : D → Prop} {kz : Z → Prop}
theorem pot_get {key : Str} {d : D} (h : lookD potKs [.lst (cs.map .int), .int a, .int l, .int s] (.inr key) = some d) : mixK (.adr p) (.str key) (zb.put p (potC cs a l s)) k = k d := by
  rw [e_mixK]
  refine propext ⟨fun ⟨ks, ds, h1, d', h2, h3⟩ => ?_, fun q => ⟨_, _, Z.put_m _ _ _, d, h, q⟩⟩
  rw [Z.put_m] at h1
  cases h1
  rw [h] at h2
  cases h2
  exact h3
theorem pot_cells : mixK (.adr p) (.str (Str.ofString "cells")) (zb.put p (potC cs a l s)) k = k (.lst (cs.map .int)) := pot_get rfl
theorem pot_at : mixK (.adr p) (.str (Str.ofString "at")) (zb.put p (potC cs a l s)) k = k (.int a) := pot_get rfl
theorem pot_left : mixK (.adr p) (.str (Str.ofString "left")) (zb.put p (potC cs a l s)) k = k (.int l) := pot_get rfl
theorem pot_seed : mixK (.adr p) (.str (Str.ofString "seed")) (zb.put p (potC cs a l s)) k = k (.int s) := pot_get rfl
theorem pot_set {key : Str} {a' l' s' : Int} (h : putD potKs [.lst (cs.map .int), .int a, .int l, .int s] (.inr key) (.int x) = (potKs, [.lst (cs.map .int), .int a', .int l', .int s'])) : msetK (.adr p) (.str key) (.int x) (zb.put p (potC cs a l s)) kz = kz (zb.put p (potC cs a' l' s')) := by
  rw [e_msetK]
  refine propext ⟨fun ⟨ks, ds, h1, _, _, h3⟩ => ?_, fun q => ⟨_, _, Z.put_m _ _ _, by decide, by decide, ?_⟩⟩
  · rw [Z.put_m] at h1
    cases h1
    rw [h, Z.put_put] at h3
    exact h3
  · rw [h, Z.put_put]
    exact q
theorem put_at : msetK (.adr p) (.str (Str.ofString "at")) (.int x) (zb.put p (potC cs a l s)) kz = kz (zb.put p (potC cs x l s)) := pot_set rfl
theorem put_left : msetK (.adr p) (.str (Str.ofString "left")) (.int x) (zb.put p (potC cs a l s)) kz = kz (zb.put p (potC cs a x s)) := pot_set rfl
theorem put_seed : msetK (.adr p) (.str (Str.ofString "seed")) (.int x) (zb.put p (potC cs a l s)) kz = kz (zb.put p (potC cs a l x)) := pot_set rfl
end
local macro_rules | `(tactic| walk_at "p") => `(tactic| repeat (walk_at "d"; simp only [pot_cells, pot_at, pot_left, pot_seed, put_at, put_left, put_seed]))
def PotC (c : Cell) : Prop := ∃ (cs : List Int) (at_ : Nat) (left seed : Int), c = potC cs at_ left seed ∧ (∀ x ∈ cs, x.natAbs.log2 ≤ 1048576) ∧ cs.length ≤ 63 ∧ at_ ≤ cs.length ∧ 0 ≤ left ∧ 0 ≤ seed ∧ seed < 2305843009213693951
section
variable {P : Program} {w : World} {K : PySem.W.Frag} {mg : Str → Option Value} {base : Heap} {f : Addr} {fd : FuncData}
@[irreducible] def spBegin : PSp := fun ds z R _ => ∃ ns : List Int, ds = [.rol (ns.map .int)] ∧ (∀ x ∈ ns, x.natAbs.log2 ≤ 1048576) ∧ ∀ p c, ¬ z.has p → PotC c → R (.adr p) (z.put p c)
theorem spBegin_of  {ds : List D} {z : Z} {R : D → Z → Prop} {E : PX} (h_ : ∃ ns : List Int, ds = [.rol (ns.map .int)] ∧ (∀ x ∈ ns, x.natAbs.log2 ≤ 1048576) ∧ ∀ p c, ¬ z.has p → PotC c → R (.adr p) (z.put p c)) : spBegin ds z R E := by unfold spBegin; exact h_
theorem spBegin_un  {ds : List D} {z : Z} {R : D → Z → Prop} {E : PX} (h_ : spBegin ds z R E) : ∃ ns : List Int, ds = [.rol (ns.map .int)] ∧ (∀ x ∈ ns, x.natAbs.log2 ≤ 1048576) ∧ ∀ p c, ¬ z.has p → PotC c → R (.adr p) (z.put p c) := by unfold spBegin at h_; exact h_
abbrev s_begin : Stmt := (top 21)
abbrev begin.N : List Str := ["_law_script"]
abbrev begin.ps : List Str := ["_law_script"]
theorem sc_begin : FnScope begin.N begin.ps (defScope s_begin) := ⟨rfl, rfl, rfl, by decide +kernel, rfl, by decide +kernel, by decide +kernel⟩
theorem ok_begin (F : Fun K "_law_begin" "_law_begin" s_begin f fd) (T : T52 mg) : FnG P w K mg base CX0 1 f fd begin.ps (lift K spBegin) := by
  refine dbody F sc_begin (fun ds z R RX h => ?_) fun cdv A outer s H E hr hg => ⟨_, (dss_one (ds_ret (de_memD [(.inr "cells", _), (.inr "at", _), (.inr "left", _), (.inr "seed", _)] (pps_cons pe_str (de_ty cd_list (by rfl) T.b_list (by decide +kernel) (da_cons (dp_of (de_slice sd_sl (dp_var 0) do_none (do_some de_int))) da_nil)) (pps_cons pe_str de_int (pps_cons pe_str de_int (pps_cons pe_str (de_op od_add (dp_of de_int) (dp_of (de_fn cd_len (by rfl) T.b_len (by decide +kernel) (da_cons (dp_of (de_slice sd_sl (dp_var 0) do_none (do_some de_int))) da_nil)))) pps_nil)))) rfl rfl (List.cons_ne_nil _ _) (by decide) (by decide) (by decide)))), fun ds z R RX h => ?_⟩
  · obtain ⟨ns, rfl, _⟩ := spBegin_un h
    rfl
  · obtain ⟨ns, rfl, hb, k⟩ := spBegin_un h
    walk_at "d"
    intro a ha
    refine k a _ ha ⟨ns.take 63, 0, 0, 1000003 + (ns.take 63).length, ?_, fun x m => hb x (List.mem_of_mem_take m), by rw [List.length_take]; omega, Nat.zero_le _, Int.le_refl _, by omega, ?_⟩
    · rw [show (63 : Int) = ((63 : Nat) : Int) from rfl, cutL_take, ← List.map_take, List.length_map]
      rfl
    · have : (ns.take 63).length ≤ 63 := by rw [List.length_take]; omega
      omega
@[irreducible] def spNext : PSp := fun ds z R _ => ∃ (p : Addr) (c : Cell) (zb : Z) (many : Int), z = zb.put p c ∧ ds = [.adr p, .int many] ∧ PotC c ∧ 0 < many ∧ many < 2 ^ 200 ∧ ∀ d c', 0 ≤ d → d < many → PotC c' → R (.int d) (zb.put p c')
theorem spNext_of  {ds : List D} {z : Z} {R : D → Z → Prop} {E : PX} (h_ : ∃ (p : Addr) (c : Cell) (zb : Z) (many : Int), z = zb.put p c ∧ ds = [.adr p, .int many] ∧ PotC c ∧ 0 < many ∧ many < 2 ^ 200 ∧ ∀ d c', 0 ≤ d → d < many → PotC c' → R (.int d) (zb.put p c')) : spNext ds z R E := by unfold spNext; exact h_
theorem spNext_un  {ds : List D} {z : Z} {R : D → Z → Prop} {E : PX} (h_ : spNext ds z R E) : ∃ (p : Addr) (c : Cell) (zb : Z) (many : Int), z = zb.put p c ∧ ds = [.adr p, .int many] ∧ PotC c ∧ 0 < many ∧ many < 2 ^ 200 ∧ ∀ d c', 0 ≤ d → d < many → PotC c' → R (.int d) (zb.put p c') := by unfold spNext at h_; exact h_
theorem use_next {p : Addr} {c : Cell} {zb : Z} {many : Int} {R : D → Z → Prop} {E : PX} (hc : PotC c) (h0 : 0 < many) (h1 : many < 2 ^ 200) (k : ∀ d c', 0 ≤ d → d < many → PotC c' → R (.int d) (zb.put p c')) : spNext [.adr p, .int many] (zb.put p c) R E :=
  spNext_of ⟨p, c, zb, many, rfl, rfl, hc, h0, h1, k⟩
abbrev s_next : Stmt := (top 22)
abbrev next.N : List Str := ["_law_draws", "_law_many", "_law_cell", "_law_digit"]
abbrev next.ps : List Str := ["_law_draws", "_law_many"]
theorem sc_next : FnScope next.N next.ps (defScope s_next) := ⟨rfl, rfl, rfl, by decide +kernel, rfl, by decide +kernel, by decide +kernel⟩
theorem ok_next (F : Fun K "_law_next" "_law_next" s_next f fd) (T : T52 mg) : FnG P w K mg base CX0 1 f fd next.ps (lift K spNext) := by
  refine dbody F sc_next (fun ds z R RX h => ?_) fun cdv A outer s H E hr hg => ⟨_, (dss_cons (ds_if (DWt.pt (dw_and (dt_cmp (od_eq hr.units) (dp_of (de_mixK (Nat.lt_of_le_of_lt (Nat.add_le_add_left (by decide : 1 ≤ 150) _) (room150 hr)) (de_var 0) de_str (fun _ _ => rfl))) (dp_of de_int) (nomark _)) (dw_and1 (dt_cmp od_lt (dp_of (de_mixK (Nat.lt_of_le_of_lt (Nat.add_le_add_left (by decide : 1 ≤ 150) _) (room150 hr)) (de_var 0) de_str (fun _ _ => rfl))) (dp_of (de_fn cd_len (by rfl) T.b_len (by decide +kernel) (da_cons (dp_of (de_mixK (Nat.lt_of_le_of_lt (Nat.add_le_add_left (by decide : 1 ≤ 150) _) (room150 hr)) (de_var 0) de_str (fun _ _ => rfl))) da_nil))) (nomark _))))) (dss_cons (ds_set (i := 2) sc_next.nd rfl (Or.inl rfl) (de_ix od_ix (dp_of (de_mixK (Nat.lt_of_le_of_lt (Nat.add_le_add_left (by decide : 1 ≤ 150) _) (room150 hr)) (de_var 0) de_str (fun _ _ => rfl))) (dp_of (de_mixK (Nat.lt_of_le_of_lt (Nat.add_le_add_left (by decide : 1 ≤ 150) _) (room150 hr)) (de_var 0) de_str (fun _ _ => rfl))) (fun _ _ => rfl)))
      (dss_cons (ds_msetK (Nat.lt_of_le_of_lt (Nat.add_le_add_left (by decide : 1 ≤ 150) _) (room150 hr)) (de_op od_add (dp_of (de_mixK (Nat.lt_of_le_of_lt (Nat.add_le_add_left (by decide : 1 ≤ 150) _) (room150 hr)) (de_var 0) de_str (fun _ _ => rfl))) (dp_of de_int)) (de_var 0) de_str)
      (dss_cons (ds_msetK (Nat.lt_of_le_of_lt (Nat.add_le_add_left (by decide : 1 ≤ 150) _) (room150 hr)) (de_op od_mod (dp_of (de_op od_add (dp_of (de_op od_add (dp_of (de_op od_mul (dp_of (de_mixK (Nat.lt_of_le_of_lt (Nat.add_le_add_left (by decide : 1 ≤ 150) _) (room150 hr)) (de_var 0) de_str (fun _ _ => rfl))) (dp_of de_int))) (dp_of (de_op od_mod (dp_var 2) (dp_of (de_op od_pow (dp_of de_int) (dp_of de_int))))))) (dp_of de_int))) (dp_of de_int)) (de_var 0) de_str)
      (dss_one (ds_msetK (Nat.lt_of_le_of_lt (Nat.add_le_add_left (by decide : 1 ≤ 150) _) (room150 hr)) (de_op od_mulB (dp_var 2) (dp_of (de_ty cd_int (by rfl) T.b_int (by decide +kernel) (da_cons (dp_of (de_cmp od_ge (dp_var 2) (dp_of (de_op od_pow (dp_of de_int) (dp_of de_int))) (nomark _))) da_nil)))) (de_var 0) de_str))))) dss_nil)
      (dss_cons (ds_if (dt_cmp od_gt (dp_of (de_mixK (Nat.lt_of_le_of_lt (Nat.add_le_add_left (by decide : 1 ≤ 150) _) (room150 hr)) (de_var 0) de_str (fun _ _ => rfl))) (dp_of de_int) (nomark _)) (dss_cons (ds_set (i := 3) sc_next.nd rfl (Or.inl rfl) (de_op od_mod (dp_of (de_mixK (Nat.lt_of_le_of_lt (Nat.add_le_add_left (by decide : 1 ≤ 150) _) (room150 hr)) (de_var 0) de_str (fun _ _ => rfl))) (dp_var 1)))
      (dss_cons (ds_msetK (Nat.lt_of_le_of_lt (Nat.add_le_add_left (by decide : 1 ≤ 150) _) (room150 hr)) (de_op od_fdiv (dp_of (de_mixK (Nat.lt_of_le_of_lt (Nat.add_le_add_left (by decide : 1 ≤ 150) _) (room150 hr)) (de_var 0) de_str (fun _ _ => rfl))) (dp_var 1)) (de_var 0) de_str)
      (dss_one (ds_ret (de_var 3))))) dss_nil)
      (dss_cons (ds_msetK (Nat.lt_of_le_of_lt (Nat.add_le_add_left (by decide : 1 ≤ 150) _) (room150 hr)) (de_op od_mod (dp_of (de_op od_add (dp_of (de_op od_mul (dp_of (de_mixK (Nat.lt_of_le_of_lt (Nat.add_le_add_left (by decide : 1 ≤ 150) _) (room150 hr)) (de_var 0) de_str (fun _ _ => rfl))) (dp_of de_int))) (dp_of de_int))) (dp_of de_int)) (de_var 0) de_str)
      (dss_one (ds_ret (de_op od_mod (dp_of (de_op od_fdiv (dp_of (de_op od_mod (dp_of (de_op od_mul (dp_of (de_mixK (Nat.lt_of_le_of_lt (Nat.add_le_add_left (by decide : 1 ≤ 150) _) (room150 hr)) (de_var 0) de_str (fun _ _ => rfl))) (dp_of (de_mixK (Nat.lt_of_le_of_lt (Nat.add_le_add_left (by decide : 1 ≤ 150) _) (room150 hr)) (de_var 0) de_str (fun _ _ => rfl))))) (dp_of de_int))) (dp_of de_int))) (dp_var 1))))))), fun ds z R RX h => ?_⟩
  · obtain ⟨p, c, zb, many, rfl, rfl, _⟩ := spNext_un h
    rfl
  · obtain ⟨p, c, zb, many, rfl, rfl, ⟨cs, at_, left, seed, rfl, hb, hcl, ha, hl, hs0, hs1⟩, hm0, hm1, k⟩ := spNext_un h
    have hml : many.natAbs.log2 < 9000 := (wide_div (i := 0) (b := 200) hm0 (by omega) (by decide) (by decide)).2
    have fin : ∀ (a : Nat) (l s : Int), a ≤ cs.length → 0 ≤ l → 0 ≤ s → s < 2305843009213693951 →
      if decide (0 < l) = true then 0 < many ∧ many.natAbs.log2 < 9000 ∧ if 0 < many then R (D.int (l % many)) (zb.put p (potC cs a (l / many) s)) else many ≠ 0 ∧ R (D.int (l % many)) (zb.put p (potC cs a (l.fdiv many) s))
      else CMulW s 1181783497276652981 ∧ (0 : Int) < 2305843009213693951 ∧ CMulW ((s * 1181783497276652981 + 12345678910987) % 2305843009213693951) ((s * 1181783497276652981 + 12345678910987) % 2305843009213693951) ∧ (0 : Int) < 2305843009213693921 ∧ (Int.natAbs 65537).log2 < 9000 ∧
        if (0 : Int) < 65537 then 0 < many ∧ R (D.int ((s * 1181783497276652981 + 12345678910987) % 2305843009213693951 * ((s * 1181783497276652981 + 12345678910987) % 2305843009213693951) % 2305843009213693921 / 65537 % many)) (zb.put p (potC cs a l ((s * 1181783497276652981 + 12345678910987) % 2305843009213693951)))
        else (65537 : Int) ≠ 0 ∧ 0 < many ∧ R (D.int (((s * 1181783497276652981 + 12345678910987) % 2305843009213693951 * ((s * 1181783497276652981 + 12345678910987) % 2305843009213693951) % 2305843009213693921).fdiv 65537 % many)) (zb.put p (potC cs a l ((s * 1181783497276652981 + 12345678910987) % 2305843009213693951))) := fun a l s ha hl hs0 hs1 => by
      refine iteD (fun q => ?_) (fun q => ?_)
      · refine ⟨hm0, hml, ?_⟩
        rw [if_pos hm0]
        exact k _ _ (Int.emod_nonneg _ (by omega)) (Int.emod_lt_of_pos _ hm0) ⟨cs, a, _, _, rfl, hb, hcl, ha, Int.ediv_nonneg hl (by omega), hs0, hs1⟩
      · have e0 : 0 ≤ (s * 1181783497276652981 + 12345678910987) % 2305843009213693951 := Int.emod_nonneg _ (by decide)
        have e1 : (s * 1181783497276652981 + 12345678910987) % 2305843009213693951 < 2305843009213693951 := Int.emod_lt_of_pos _ (by decide)
        refine ⟨wide_mul (a := 62) (b := 62) (by omega) (by decide) (by decide) (by decide) (by decide), by decide, wide_mul (a := 62) (b := 62) (by omega) (by omega) (by decide) (by decide) (by decide), by decide, by decide, ?_⟩
        rw [if_pos (by decide)]
        exact ⟨hm0, k _ _ (Int.emod_nonneg _ (by omega)) (Int.emod_lt_of_pos _ hm0) ⟨cs, a, _, _, rfl, hb, hcl, ha, hl, e0, e1⟩⟩
    walk_at "p"
    walk_at "d"
    refine iteD (fun q1 => ?_) (fun q1 => fin at_ left seed ha hl hs0 hs1)
    refine iteD (fun q2 => ?_) (fun q2 => fin at_ left seed ha hl hs0 hs1)
    rw [List.length_map] at q2
    have q3 : at_ < cs.length := by omega
    refine ⟨.int cs[at_], atI_nat (by rw [List.getElem?_map, List.getElem?_eq_getElem q3]; rfl), wide_mul (a := 62) (b := 62) (by omega) (by decide) (by decide) (by decide) (by decide), ⟨by decide, by decide, by decide⟩, ?_⟩
    have hc := hb cs[at_] (List.getElem_mem q3)
    generalize cs[at_] = cell at hc ⊢
    walk_at "p"
    walk_at "d"
    have hcd : cell % (10 : Int) ^ Int.toNat 30 < 10 ^ 30 ∧ 0 ≤ cell % (10 : Int) ^ Int.toNat 30 := ⟨Int.emod_lt_of_pos _ (by decide), Int.emod_nonneg _ (by decide)⟩
    refine ⟨by decide, by decide, ⟨by decide, by decide, by decide⟩, ?_⟩
    obtain ⟨y, hy, hy2⟩ : ∃ y : Int, (if decide ((10 : Int) ^ Int.toNat 18 ≤ cell) = true then (1 : Int) else 0) = y ∧ (y = 0 ∨ (y = 1 ∧ 0 ≤ cell)) := by
      by_cases q : (10 : Int) ^ Int.toNat 18 ≤ cell
      · exact ⟨1, if_pos (decide_eq_true q), .inr ⟨rfl, Int.le_trans (by decide) q⟩⟩
      · exact ⟨0, if_neg (by rw [decide_eq_true_eq]; exact q), .inl rfl⟩
    rw [hy]
    refine ⟨?_, fin (at_ + 1) (cell * y) _ (by omega) ?_ (Int.emod_nonneg _ (by decide)) (Int.emod_lt_of_pos _ (by decide))⟩
    · unfold CMulB
      have : y.natAbs.log2 = 0 := by rcases hy2 with rfl | ⟨rfl, _⟩ <;> decide
      omega
    · rcases hy2 with rfl | ⟨rfl, h0⟩
      · rw [Int.mul_zero]; exact Int.le_refl _
      · rw [Int.mul_one]; exact h0
end

/-! ### reading steps over trees -/

/-! ### the law's own grids -/
def Wok (w : List Nat) : Prop := ∃ r, signsOf w = some r
theorem Wok.form {w : List Nat} (h : Wok w) : 32 ∉ w ∧ w.length ≤ 3 ∧ w ≠ [] := by
  obtain ⟨r, h⟩ := h
  unfold signsOf at h
  split at h
  · rename_i m hm
    have hk : ∃ k, w.take 1 = [k] ∧ (k = 65 ∨ k = 78) := by
      split at h
      · rename_i q
        unfold menu at q
        split at q
        · exact ⟨_, ‹_›, .inl rfl⟩
        · split at q
          · exact ⟨_, ‹_›, .inr rfl⟩
          · simp at q; omega
      · cases h
    obtain ⟨k, hk, hk2⟩ := hk
    match w, hk, hm with
    | [], hk, _ => cases hk
    | a :: t, hk, hm =>
      have ea : a = k := by simpa using hk
      rw [List.drop_succ_cons, List.drop_zero] at hm
      unfold manyOf at hm
      split at hm
      · split at hm
        · rename_i c hd
          unfold dig at hd
          simp at hd
          refine ⟨?_, by simp, by simp⟩
          simp only [List.mem_cons, List.not_mem_nil, or_false, not_or]
          omega
        · cases hm
      · split at hm
        · rename_i c d hd
          unfold dig at hd
          simp at hd
          refine ⟨?_, by simp, by simp⟩
          simp only [List.mem_cons, List.not_mem_nil, or_false, not_or]
          omega
        · cases hm
      · cases hm
  · cases h
theorem badAt_none : ∀ {ws : List (List Nat)} {i : Nat}, i + ws.length ≤ 5 → (∀ w ∈ ws, Wok w) → badAt i ws = none
  | [], _, _, _ => rfl
  | w :: ws, i, hl, h => by
    rw [List.length_cons] at hl
    unfold badAt
    have hn : ¬ (i = 5 ∨ signsOf w = none) := by
      rintro (e | e)
      · omega
      · obtain ⟨r, q⟩ := h w List.mem_cons_self
        rw [q] at e; cases e
    rw [if_neg hn]
    exact badAt_none (by omega) fun w m => h w (List.mem_cons_of_mem _ m)
/-- a text of words -/
def textOf (ws : List (List Nat)) : List Nat := TL.joinL [32] ws
theorem joinL_len : ∀ {ws : List (List Nat)}, (∀ w ∈ ws, w.length ≤ 3) → (TL.joinL [32] ws).length ≤ 4 * ws.length
  | [], _ => by simp [TL.joinL]
  | [w], h => by
    have := h w (by simp)
    show w.length ≤ 4 * 1
    omega
  | w :: v :: r, h => by
    have h1 := h w (by simp)
    have h2 := joinL_len (ws := v :: r) fun x m => h x (List.mem_cons_of_mem _ m)
    show (w ++ ([32] ++ TL.joinL [32] (v :: r))).length ≤ _
    rw [List.length_append, List.length_append, List.length_cons (a := w)]
    show w.length + (1 + _) ≤ _
    omega
theorem words_text {ws : List (List Nat)} (hn : ws ≠ []) (h : ∀ w ∈ ws, Wok w) : wordsOf (textOf ws) = ws := spl_join hn fun w m => (h w m).form.1
/-- the signs of words -/
def signsAll (ws : List (List Nat)) : List (List Nat) := ws.map fun w => (signsOf w).getD []
theorem signsAll_ok {ws : List (List Nat)} (h : ∀ w ∈ ws, Wok w) : ws.map signsOf = (signsAll ws).map some := by
  unfold signsAll
  rw [List.map_map]
  refine List.map_congr_left fun w m => ?_
  obtain ⟨r, e⟩ := h w m
  show signsOf w = some ((signsOf w).getD [])
  rw [e]; rfl
/-- words of a grid's text -/
structure WsOk (ws : List (List Nat)) : Prop where
  ne : ws ≠ []
  le : ws.length ≤ 5
  ok : ∀ w ∈ ws, Wok w
theorem WsOk.text {ws : List (List Nat)} (h : WsOk ws) : (textOf ws).length ≤ 20 := by
  have := joinL_len (ws := ws) fun w m => (h.ok w m).form.2.1
  have := h.le
  unfold textOf
  omega
theorem WsOk.grid {ws : List (List Nat)} (h : WsOk ws) : GOk (textOf ws) (signsAll ws) :=
  ⟨Nat.le_trans h.text (by decide), by rw [words_text h.ne h.ok]; exact badAt_none (by have := h.le; omega) h.ok, by rw [words_text h.ne h.ok]; exact signsAll_ok h.ok⟩
/-- a word by its kind and its cut -/
def wordOf (kind cut : Nat) : List Nat := (if kind = 0 then 65 else 78) :: TL.numL cut
theorem wordOf_ok : ∀ kind cut : Nat, kind < 2 → 2 ≤ cut → cut ≤ (if kind = 0 then 24 else 10) → signsOf (wordOf kind cut) = some ((if kind = 0 then letters else figs).take cut) := by
  intro kind cut h1 h2 h3
  have all : ∀ k : Fin 2, ∀ c : Fin 25, 2 ≤ c.val → c.val ≤ (if k.val = 0 then 24 else 10) → signsOf (wordOf k.val c.val) = some ((if k.val = 0 then letters else figs).take c.val) := by decide +kernel
  exact all ⟨kind, h1⟩ ⟨cut, by split at h3 <;> omega⟩ h2 h3
theorem strsD_map (ws : List (List Nat)) : strsD ws = (ws.map S).map D.str := by unfold strsD; rw [List.map_map]; rfl
theorem sum_len {ws : List (List Nat)} (h : ∀ w ∈ ws, w.length ≤ 3) : ((ws.map S).map (·.length)).sum ≤ 3 * ws.length := by
  induction ws with
  | nil => exact Nat.le_refl _
  | cons w ws ih =>
    have h1 := h w List.mem_cons_self
    have h2 := ih fun x m => h x (List.mem_cons_of_mem _ m)
    rw [List.map_cons, List.map_cons, List.sum_cons, List.length_cons, S_len]
    omega
theorem word_str {c kind n : Nat} (hc : c = if kind = 0 then 65 else 78) : (⟨#[c]⟩ : Str) ++ Str.ofString (toString ((n : Nat) : Int)) = S (wordOf kind n) := by
  rw [num_S, show (⟨#[c]⟩ : Str) = S [c] from rfl, S_cat, hc]
  rfl
theorem numL_len : ∀ n : Nat, n < 100 → (TL.numL n).length ≤ 2 := by
  have all : ∀ n : Fin 100, (TL.numL n.val).length ≤ 2 := by decide +kernel
  exact fun n h => all ⟨n, h⟩

theorem two_at {a b i : Int} {q : Bool} (hi : i = if q = true then 1 else 0) : ∃ m : Int, atI [D.int a, D.int b] i = some (.int m) ∧ (m = a ∨ m = b) ∧ (q = true → m = b) ∧ (q = false → m = a) := by
  cases q with
  | true => rw [hi, if_pos rfl]; exact ⟨b, atI_nat (j := 1) rfl, .inr rfl, fun _ => rfl, fun h => nomatch h⟩
  | false => rw [hi, if_neg Bool.false_ne_true]; exact ⟨a, atI_nat (j := 0) rfl, .inl rfl, (fun h => nomatch h), fun _ => rfl⟩
section
variable {P : Program} {w : World} {K : PySem.W.Frag} {mg : Str → Option Value} {base : Heap} {f : Addr} {fd : FuncData}
@[irreducible] def spGT : PSp := fun ds z R _ => ∃ (p : Addr) (c : Cell) (zb : Z), z = zb.put p c ∧ ds = [.adr p] ∧ PotC c ∧ ∀ ws c', WsOk ws → PotC c' → R (.str (S (textOf ws))) (zb.put p c')
theorem spGT_of  {ds : List D} {z : Z} {R : D → Z → Prop} {E : PX} (h_ : ∃ (p : Addr) (c : Cell) (zb : Z), z = zb.put p c ∧ ds = [.adr p] ∧ PotC c ∧ ∀ ws c', WsOk ws → PotC c' → R (.str (S (textOf ws))) (zb.put p c')) : spGT ds z R E := by unfold spGT; exact h_
theorem spGT_un  {ds : List D} {z : Z} {R : D → Z → Prop} {E : PX} (h_ : spGT ds z R E) : ∃ (p : Addr) (c : Cell) (zb : Z), z = zb.put p c ∧ ds = [.adr p] ∧ PotC c ∧ ∀ ws c', WsOk ws → PotC c' → R (.str (S (textOf ws))) (zb.put p c') := by unfold spGT at h_; exact h_
theorem use_GT {p : Addr} {c : Cell} {zb : Z} {R : D → Z → Prop} {E : PX} (hc : PotC c) (k : ∀ ws c', WsOk ws → PotC c' → R (.str (S (textOf ws))) (zb.put p c')) : spGT [.adr p] (zb.put p c) R E := spGT_of ⟨p, c, zb, rfl, rfl, hc, k⟩
abbrev s_grid_text : Stmt := (top 23)
abbrev grid_text.N : List Str := ["_law_draws", "_law_words", "_law_k", "_law_kind", "_law_wide", "_law_most"]
abbrev grid_text.ps : List Str := ["_law_draws"]
theorem sc_grid_text : FnScope grid_text.N grid_text.ps (defScope s_grid_text) := ⟨rfl, rfl, rfl, by decide +kernel, rfl, by decide +kernel, by decide +kernel⟩
theorem ok_grid_text (F : Fun K "_law_grid_text" "_law_grid_text" s_grid_text f fd) (T : T52 mg) (C_next : Callee P w K mg base CX0 1 "_law_next" s_next next.ps (lift K spNext)) : FnG P w K mg base CX0 2 f fd grid_text.ps (lift K spGT) := by
  refine dbody F sc_grid_text (fun ds z R RX h => ?_) fun cdv A outer s H E hr hg => ⟨_, (dss_cons (ds_own (i := 1) sc_grid_text.nd rfl (Or.inl rfl) (dn_lst das_nil))
      (dss_cons (ds_for PassesOwn.never rfl (di_range1 rfl T.b_range (da_cons (dp_of (de_op od_add (dp_of de_int) (dp_of (C_next.d0 rfl hr hg (atAll pass0) (das_cons (de_var 0) (das_cons de_int das_nil)))))) da_nil)) (dg_name (i := 2) sc_grid_text.nd rfl (Or.inl rfl)) (dss_cons (ds_par (i := 3) (j := 4) rfl sc_grid_text.nd rfl rfl (by decide) rfl rfl (das_cons (de_ix od_ix (dp_of de_str) (dp_of (C_next.d0 rfl hr hg (atAll pass0) (das_cons (de_var 0) (das_cons de_int das_nil)))) (fun _ _ => rfl)) (das_cons (de_cmp (od_eq hr.units) (dp_of (C_next.d0 rfl hr hg (atAll pass0) (das_cons (de_var 0) (das_cons de_int das_nil)))) (dp_of de_int) (nomark _)) das_nil)) (by rfl))
      (dss_cons (ds_set (i := 5) sc_grid_text.nd rfl (Or.inl rfl) (de_ix od_ix (dp_of (de_new (dn_lst (das_cons de_int (das_cons (de_ix od_ix (dp_of (de_new (dn_lst (das_cons de_int (das_cons de_int das_nil))))) (dp_of (de_ty cd_int (by rfl) T.b_int (by decide +kernel) (da_cons (dp_of (de_cmp (od_eq hr.units) (dp_var 3) (dp_of de_str) (nomark _))) da_nil))) (fun _ _ => rfl)) das_nil))))) (dp_of (de_ty cd_int (by rfl) T.b_int (by decide +kernel) (da_cons (dp_var 4) da_nil))) (fun _ _ => rfl)))
      (dss_one (ds_append (i := 1) rfl (de_op od_add (dp_var 3) (dp_of (de_ty cd_str (by rfl) T.b_str (by decide +kernel) (da_cons (dp_of (de_op od_add (dp_of de_int) (dp_of (C_next.d0 rfl hr hg (atAll pass0) (das_cons (de_var 0) (das_cons (de_var 5) das_nil)))))) da_nil)))))))))
      (dss_one (ds_ret (de_mt PySem.F.slot_str_join PySem.F.type_str_join md_join (dp_of de_str) (da_cons (dp_var 1) da_nil)))))), fun ds z R RX h => ?_⟩
  · obtain ⟨p, c, zb, rfl, rfl, _⟩ := spGT_un h
    rfl
  · obtain ⟨p, c, zb, rfl, rfl, hc, k⟩ := spGT_un h
    walk_at "d"
    refine use_next hc (by decide) (by decide) fun d c1 hd0 hd1 hc1 => ?_
    walk_at "d"
    refine ⟨by omega, by omega, ?_⟩
    refine forD_inv (fun i ρ z' => ∃ ws c' a2 a3 a4 a5, ρ = [.val (.adr p), .own (strsD ws), a2, a3, a4, a5] ∧ z' = zb.put p c' ∧ PotC c' ∧ ws.length = i ∧ ∀ w ∈ ws, Wok w)
      ⟨[], c1, .any, .any, .any, .any, rfl, rfl, hc1, rfl, nofun⟩ ?_ ?_
    · rintro i d0 ρ z' hdi ⟨ws, c', a2, a3, a4, a5, rfl, rfl, hc', hl, hok⟩
      have hi : i < 5 := by
        have := (rngD_get hdi).1
        omega
      walk_at "d"
      refine use_next hc' (by decide) (by decide) fun kd c2 hk0 hk1 hc2 => ?_
      walk_at "d"
      have step : ∀ (kind ch top : Nat) (kd : Int), kd = (kind : Nat) → kind < 2 → ch = (if kind = 0 then 65 else 78) → top = (if kind = 0 then 24 else 10) → atI (Str.ofString "AN").cps.toList kd = some ch → atI [D.int 23, D.int 9] (if decide (({ cps := #[ch] } : Str) = Str.ofString "N") = true then 1 else 0) = some (.int (top - 1 : Nat)) →
        ∃ c, atI (Str.ofString "AN").cps.toList kd = some c ∧ spNext [D.adr p, D.int 4] (zb.put p c2) (fun d z2 => eqD id d (D.int 0) fun d => ∃ d_1, atI [D.int 23, D.int 9] (if decide (({ cps := #[c] } : Str) = Str.ofString "N") = true then 1 else 0) = some d_1 ∧ intD [d] fun d_2 => ixD (D.lst [D.int 3, d_1]) d_2 fun d_3 =>
          spNext [D.adr p, d_3] z2 (fun d_4 z2 => addD (D.int 2) d_4 fun d_5 => strD [d_5] fun d_6 => addD (D.str { cps := #[c] }) d_6 fun d_7 => (strsD ws).length < sizeLine ∧ ∃ ws_1 c' a2 a3 a4 a5,
            [Sl.val (D.adr p), Sl.own (strsD ws ++ [d_7]), Sl.val d0, Sl.val (D.str { cps := #[c] }), Sl.val d, Sl.val d_3] = [Sl.val (D.adr p), Sl.own (strsD ws_1), a2, a3, a4, a5] ∧ z2 = zb.put p c' ∧ PotC c' ∧ ws_1.length = i + 1 ∧ ∀ (w : List Nat), w ∈ ws_1 → Wok w) noP) noP := fun kind ch top kd hkd hk2 hch htop h1 h2 => by
        refine ⟨ch, h1, use_next hc2 (by decide) (by decide) fun d4 c3 h40 h41 hc3 => ?_⟩
        walk_at "d"
        have ht : 10 ≤ top ∧ top ≤ 24 := by rw [htop]; split <;> omega
        obtain ⟨m, hm, hm1, _⟩ := two_at (a := 3) (b := ((top - 1 : Nat) : Int)) (q := decide (d4 = 0)) rfl
        refine ⟨_, h2, _, hm, ?_⟩
        have hmb : 3 ≤ m ∧ m ≤ top - 1 := by omega
        refine use_next hc3 (by omega) (Int.lt_of_le_of_lt (show m ≤ 23 by omega) (by decide)) fun d5 c4 h50 h51 hc4 => ?_
        walk_at "d"
        obtain ⟨n, hn, hn1, hn2⟩ : ∃ n : Nat, 2 + d5 = (n : Int) ∧ 2 ≤ n ∧ n ≤ top := ⟨(2 + d5).toNat, by omega, by omega, by omega⟩
        rw [hn]
        walk_at "d"
        have hwo := wordOf_ok kind n hk2 hn1 (by rw [← htop]; exact hn2)
        refine ⟨log_small (k := 100) (by omega) (by decide) (by decide), ?_⟩
        rw [word_str hch, strsD_snoc]
        refine ⟨?_, by rw [strsD_len, hl]; exact Nat.lt_trans hi (by decide), ws ++ [wordOf kind n], c4, _, _, _, _, rfl, rfl, hc4, by rw [List.length_append, hl]; rfl, fun x hx => ?_⟩
        · rw [num_S, S_len]
          have := numL_len n (by omega)
          show 1 + _ ≤ sizeLine
          exact Nat.le_trans (Nat.add_le_add_left this 1) (by decide)
        · rcases List.mem_append.mp hx with hx | hx
          · exact hok x hx
          · rw [List.mem_singleton.mp hx]; exact ⟨_, hwo⟩
      refine ⟨by decide, ?_⟩
      rcases (show kd = 0 ∨ kd = 1 by omega) with rfl | rfl
      · exact step 0 65 24 0 rfl (by decide) rfl rfl (by decide) (by rw [if_neg (by decide)]; rfl)
      · exact step 1 78 10 1 rfl (by decide) rfl rfl (by decide) (by rw [if_pos (by decide)]; rfl)
    · rintro ρ z' ⟨ws, c', a2, a3, a4, a5, rfl, rfl, hc', hl, hok⟩
      rw [rngD_len] at hl
      have W : WsOk ws := ⟨by intro e; rw [e, List.length_nil] at hl; omega, by omega, hok⟩
      walk_at "d"
      have sl := sum_len fun w m => (hok w m).form.2.1
      refine ⟨ws.map S, strsD_map ws, ?_, ?_⟩
      · rw [List.length_map, show (Str.ofString " ").length = 1 from by decide]
        omega
      · rw [show Str.ofString " " = S [32] by decide +kernel, join_S]
        exact k ws c' W hc'
end

/-! ### reading steps over trees -/

/-- the class Grid as its callers see it -/
structure GridFn (P : Program) (w : World) (K : PySem.W.Frag) (mg : Str → Option Value) (base : Heap) (CG CB : Addr) : Prop where
  O : Own K CG ["text", "alphabets"]
  G : mg "Grid" = some (.ref CG)
  N : NoNe K CG
  R : Refl K CG
  W : Fmt K CG
  I : IsC K CG
  new : Maker P w K mg base (L2.CX P w) 3 "Grid" CG (dR s_Grid_init "__init__" "Grid.__init__" K) Grid_init.ps (liftI K CG (spGrid K CB))
  eq : Method P w K mg base CX0 1 CG "__eq__" (dR s_Grid_eq "__eq__" "Grid.__eq__" K) Grid_eq.ps (lift K (spGEq K CG))
  len : Method P w K mg base CX0 1 CG "__len__" (dR s_Grid_len "__len__" "Grid.__len__" K) Grid_len.ps (lift K (spGLen CG))
  str : Method P w K mg base CX0 1 CG "__str__" (dR s_Grid_str "__str__" "Grid.__str__" K) Grid_str.ps (lift K (spGStr CG))
  repr : Method P w K mg base CX0 1 CG "__repr__" (dR s_Grid_repr "__repr__" "Grid.__repr__" K) Grid_repr.ps (lift K (spGRepr CG))
  alphabet : Method P w K mg base CX0 1 CG "alphabet" (dR s_Grid_alphabet "alphabet" "Grid.alphabet" K) Grid_alphabet.ps (lift K (spAlphabet CG))
  cut : Method P w K mg base CX0 2 CG "cut" (dR s_Grid_cut "cut" "Grid.cut" K) Grid_cut.ps (lift K (spCut CG))
  side : True
theorem use_Grid {K : PySem.W.Frag} {CB : Addr} {l : List Nat} {al : List (List Nat)} {z : Z} {R : List Str → List D → Z → Prop} {E : PX} (g : GOk l al) (k : R ["text", "alphabets"] [.str (S l), .tup (strsD al)] z) : spGrid K CB [.str (S l)] z R E := by
  unfold spGrid
  refine .inl ⟨l, rfl, g.len, fun am h => ?_, fun i h => ?_⟩
  · rw [← g.same h]; exact k
  · rw [g.bad] at h; cases h
theorem use_GEq {K : PySem.W.Frag} {CG : Addr} {l l2 : List Nat} {al al2 : List (List Nat)} {z : Z} {R : D → Z → Prop} {E : PX} (hl : l.length ≤ 100000) (k : R (.bl (decide (l = l2))) z) : spGEq K CG [gridD CG l al, gridD CG l2 al2] z R E := by
  unfold spGEq
  exact ⟨l, al, _, rfl, hl, .inl ⟨l2, al2, rfl, k⟩⟩
section
variable {K : PySem.W.Frag} {CG CB : Addr} {l : List Nat} {al : List (List Nat)} {z : Z} {R : D → Z → Prop} {E : PX}
end

/-! ### reading steps over trees -/

section
variable {P : Program} {w : World} {K : PySem.W.Frag} {mg : Str → Option Value} {base : Heap} {f : Addr} {fd : FuncData}
@[irreducible] def spWhl : PSp := fun ds z R _ => ∃ (p : Addr) (c : Cell) (zb : Z), z = zb.put p c ∧ ds = [.adr p] ∧ PotC c ∧ ∀ (n : Int) c', n.natAbs < 2 ^ 140 → PotC c' → R (.int n) (zb.put p c')
theorem spWhl_of  {ds : List D} {z : Z} {R : D → Z → Prop} {E : PX} (h_ : ∃ (p : Addr) (c : Cell) (zb : Z), z = zb.put p c ∧ ds = [.adr p] ∧ PotC c ∧ ∀ (n : Int) c', n.natAbs < 2 ^ 140 → PotC c' → R (.int n) (zb.put p c')) : spWhl ds z R E := by unfold spWhl; exact h_
theorem spWhl_un  {ds : List D} {z : Z} {R : D → Z → Prop} {E : PX} (h_ : spWhl ds z R E) : ∃ (p : Addr) (c : Cell) (zb : Z), z = zb.put p c ∧ ds = [.adr p] ∧ PotC c ∧ ∀ (n : Int) c', n.natAbs < 2 ^ 140 → PotC c' → R (.int n) (zb.put p c') := by unfold spWhl at h_; exact h_
theorem use_whl {p : Addr} {c : Cell} {zb : Z} {R : D → Z → Prop} {E : PX} (hc : PotC c) (k : ∀ (n : Int) c', n.natAbs < 2 ^ 140 → PotC c' → R (.int n) (zb.put p c')) : spWhl [.adr p] (zb.put p c) R E := spWhl_of ⟨p, c, zb, rfl, rfl, hc, k⟩
abbrev s_whole : Stmt := (top 24)
abbrev whole.N : List Str := ["_law_draws", "_law_way", "_law_number"]
abbrev whole.ps : List Str := ["_law_draws"]
theorem sc_whole : FnScope whole.N whole.ps (defScope s_whole) := ⟨rfl, rfl, rfl, by decide +kernel, rfl, by decide +kernel, by decide +kernel⟩
theorem ok_whole (F : Fun K "_law_whole" "_law_whole" s_whole f fd) (T : T52 mg) (C_next : Callee P w K mg base CX0 1 "_law_next" s_next next.ps (lift K spNext)) : FnG P w K mg base CX0 2 f fd whole.ps (lift K spWhl) := by
  refine dbody F sc_whole (fun ds z R RX h => ?_) fun cdv A outer s H E hr hg => ⟨_, (dss_cons (ds_par (i := 1) (j := 2) rfl sc_whole.nd rfl rfl (by decide) rfl rfl (das_cons (C_next.d0 rfl hr hg (atAll pass0) (das_cons (de_var 0) (das_cons de_int das_nil))) (das_cons (C_next.d0 rfl hr hg (atAll pass0) (das_cons (de_var 0) (das_cons de_int das_nil))) das_nil)) (by rfl))
      (dss_cons (ds_cut (ds_if (dt_cmp (od_eq hr.units) (dp_var 1) (dp_of de_int) (nomark _)) (dss_one (ds_set (i := 2) sc_whole.nd rfl (Or.inl rfl) (de_op od_add (dp_of (de_op od_mul (dp_of (C_next.d0 rfl hr hg (atAll pass0) (das_cons (de_var 0) (das_cons (de_op od_pow (dp_of de_int) (dp_of de_int)) das_nil)))) (dp_of (de_op od_pow (dp_of de_int) (dp_of de_int))))) (dp_of (C_next.d0 rfl hr hg (atAll pass0) (das_cons (de_var 0) (das_cons (de_op od_pow (dp_of de_int) (dp_of de_int)) das_nil))))))) (dss_one (ds_if (dt_cmp od_lt (dp_var 1) (dp_of de_int) (nomark _)) (dss_one (ds_set (i := 2) sc_whole.nd rfl (Or.inl rfl) (C_next.d0 rfl hr hg (atAll pass0) (das_cons (de_var 0) (das_cons de_int das_nil))))) dss_nil))))
      (dss_one (ds_ret (de_op od_mul (dp_var 2) (dp_of (de_op od_sub (dp_of de_int) (dp_of (de_op od_mul (dp_of de_int) (dp_of (C_next.d0 rfl hr hg (atAll pass0) (das_cons (de_var 0) (das_cons de_int das_nil))))))))))))), fun ds z R RX h => ?_⟩
  · obtain ⟨p, c, zb, rfl, rfl, _⟩ := spWhl_un h
    rfl
  · obtain ⟨p, c, zb, rfl, rfl, hc, k⟩ := spWhl_un h
    walk_at "d"
    refine use_next hc (by decide) (by decide) fun way c1 hd0 hd1 hc1 => ?_
    refine use_next hc1 (by decide) (by decide) fun num c2 he0 he1 hc2 => ?_
    walk_at "d"
    refine ⟨fun ρ z' => ∃ (n : Int) (c' : Cell), 0 ≤ n ∧ n < 2 ^ 139 ∧ PotC c' ∧ ρ = [.val (.adr p), .val (.int way), .val (.int n)] ∧ z' = zb.put p c', ?_, ?_⟩
    · walk_at "d"
      refine iteD (fun q => ?_) (fun q => ?_)
      · walk_at "d"
        refine ⟨⟨by decide, by decide, by decide⟩, ?_⟩
        refine use_next hc2 (by decide) (by decide) fun x c3 hx0 hx1 hc3 => ?_
        walk_at "d"
        have hx2 : x < 10 ^ 20 := hx1
        refine ⟨⟨by decide, by decide, by decide⟩, ?_⟩
        refine ⟨wide_mul (a := 70) (b := 70) (by omega) (by decide) (by decide) (by decide) (by decide), ?_⟩
        refine ⟨⟨by decide, by decide, by decide⟩, ?_⟩
        refine use_next hc3 (by decide) (by decide) fun y c4 hy0 hy1 hc4 => ?_
        have hy2 : y < 10 ^ 18 := Int.lt_of_lt_of_le hy1 (by decide)
        walk_at "d"
        first | rw [show (10 : Int) ^ Int.toNat 19 = 10 ^ 19 from rfl] | rw [show (10 : Int) ^ Int.toNat 8 = 10 ^ 8 from rfl]
        exact ⟨_, c4, by omega, by omega, hc4, rfl, rfl⟩
      · walk_at "d"
        refine iteD (fun q2 => ?_) (fun q2 => ?_)
        · refine use_next hc2 (by decide) (by decide) fun x c3 hx0 hx1 hc3 => ?_
          walk_at "d"
          exact ⟨x, c3, hx0, by omega, hc3, rfl, rfl⟩
        · exact ⟨num, c2, he0, by omega, hc2, rfl, rfl⟩
    · rintro ρ z' ⟨n, c', hn0, hn1, hc', rfl, rfl⟩
      walk_at "d"
      refine use_next hc' (by decide) (by decide) fun sg c3 hs0 hs1 hc3 => ?_
      walk_at "d"
      refine ⟨wide_mul (a := 10) (b := 10) (by decide) (by omega) (by decide) (by decide) (by decide), wide_mul (a := 140) (b := 10) (by omega) (by omega) (by decide) (by decide) (by decide), k _ _ ?_ hc3⟩
      rcases (show sg = 0 ∨ sg = 1 by omega) with rfl | rfl
      · rw [show (1 : Int) - 2 * 0 = 1 from rfl, Int.mul_one]; omega
      · rw [show (1 : Int) - 2 * 1 = -1 from rfl]; omega
structure Turn (a b c : Int) : Prop where
  py : a * a + b * b = c * c
  c0 : 1 ≤ c
  c1 : c ≤ 100
  ab : a.natAbs ≤ 100
  bb : b.natAbs ≤ 100
@[irreducible] def spTurn : PSp := fun ds z R _ => ∃ (p : Addr) (c : Cell) (zb : Z), z = zb.put p c ∧ ds = [.adr p] ∧ PotC c ∧ ∀ (a b d : Int) c', Turn a b d → PotC c' → R (.tup [.int a, .int b, .int d]) (zb.put p c')
theorem spTurn_of  {ds : List D} {z : Z} {R : D → Z → Prop} {E : PX} (h_ : ∃ (p : Addr) (c : Cell) (zb : Z), z = zb.put p c ∧ ds = [.adr p] ∧ PotC c ∧ ∀ (a b d : Int) c', Turn a b d → PotC c' → R (.tup [.int a, .int b, .int d]) (zb.put p c')) : spTurn ds z R E := by unfold spTurn; exact h_
theorem spTurn_un  {ds : List D} {z : Z} {R : D → Z → Prop} {E : PX} (h_ : spTurn ds z R E) : ∃ (p : Addr) (c : Cell) (zb : Z), z = zb.put p c ∧ ds = [.adr p] ∧ PotC c ∧ ∀ (a b d : Int) c', Turn a b d → PotC c' → R (.tup [.int a, .int b, .int d]) (zb.put p c') := by unfold spTurn at h_; exact h_
theorem use_turn {p : Addr} {c : Cell} {zb : Z} {R : D → Z → Prop} {E : PX} (hc : PotC c) (k : ∀ (a b d : Int) c', Turn a b d → PotC c' → R (.tup [.int a, .int b, .int d]) (zb.put p c')) : spTurn [.adr p] (zb.put p c) R E := spTurn_of ⟨p, c, zb, rfl, rfl, hc, k⟩
abbrev s_turn : Stmt := (top 25)
abbrev turn.N : List Str := ["_law_draws", "_law_m", "_law_n", "_law_i", "_law_j", "_law_k", "_law_signs"]
abbrev turn.ps : List Str := ["_law_draws"]
theorem sc_turn : FnScope turn.N turn.ps (defScope s_turn) := ⟨rfl, rfl, rfl, by decide +kernel, rfl, by decide +kernel, by decide +kernel⟩
theorem ok_turn (F : Fun K "_law_turn" "_law_turn" s_turn f fd) (T : T52 mg) (C_next : Callee P w K mg base CX0 1 "_law_next" s_next next.ps (lift K spNext)) : FnG P w K mg base CX0 2 f fd turn.ps (lift K spTurn) := by
  refine dbody F sc_turn (fun ds z R RX h => ?_) fun cdv A outer s H E hr hg => ⟨_, (dss_cons (ds_set (i := 1) sc_turn.nd rfl (Or.inl rfl) (de_op od_add (dp_of de_int) (dp_of (C_next.d0 rfl hr hg (atAll pass0) (das_cons (de_var 0) (das_cons de_int das_nil))))))
      (dss_cons (ds_set (i := 2) sc_turn.nd rfl (Or.inl rfl) (C_next.d0 rfl hr hg (atAll pass0) (das_cons (de_var 0) (das_cons (de_op od_add (dp_var 1) (dp_of de_int)) das_nil))))
      (dss_cons (ds_cut (ds_if (dt_cmp od_gt (dp_of (de_op od_add (dp_of (de_op od_mul (dp_var 1) (dp_var 1))) (dp_of (de_op od_mul (dp_var 2) (dp_var 2))))) (dp_of de_int) (nomark _)) (dss_one (ds_set (i := 2) sc_turn.nd rfl (Or.inl rfl) de_int)) dss_nil))
      (dss_cons (ds_par3 (i := 3) (j := 4) (l := 5) rfl sc_turn.nd rfl rfl rfl (by decide) (by decide) (by decide) rfl rfl rfl (das_cons (de_op od_sub (dp_of (de_op od_mul (dp_var 1) (dp_var 1))) (dp_of (de_op od_mul (dp_var 2) (dp_var 2)))) (das_cons (de_op od_mul (dp_of (de_op od_mul (dp_of de_int) (dp_var 1))) (dp_var 2)) (das_cons (de_op od_add (dp_of (de_op od_mul (dp_var 1) (dp_var 1))) (dp_of (de_op od_mul (dp_var 2) (dp_var 2)))) das_nil))) (by rfl))
      (dss_cons (ds_cut (ds_if (dt_cmp (od_eq hr.units) (dp_of (C_next.d0 rfl hr hg (atAll pass0) (das_cons (de_var 0) (das_cons de_int das_nil)))) (dp_of de_int) (nomark _)) (dss_one (ds_asg (de_ix od_ix (dp_of (de_new (dn_lst (das_cons (de_tup (das_cons de_int (das_cons de_int (das_cons de_int das_nil)))) (das_cons (de_tup (das_cons de_int (das_cons de_int (das_cons de_int das_nil)))) (das_cons (de_tup (das_cons de_int (das_cons de_int (das_cons de_int das_nil)))) (das_cons (de_tup (das_cons de_int (das_cons de_int (das_cons de_int das_nil)))) (das_cons (de_tup (das_cons de_int (das_cons de_int (das_cons de_int das_nil)))) (das_cons (de_tup (das_cons de_int (das_cons de_int (das_cons de_int das_nil)))) das_nil))))))))) (dp_of (C_next.d0 rfl hr hg (atAll pass0) (das_cons (de_var 0) (das_cons de_int das_nil)))) (fun _ _ => rfl)) (dg_tup (n := 3) rfl (dgs_cons (dg_name (i := 3) sc_turn.nd rfl (Or.inl rfl)) (dgs_cons (dg_name (i := 4) sc_turn.nd rfl (Or.inl rfl)) (dgs_cons (dg_name (i := 5) sc_turn.nd rfl (Or.inl rfl)) dgs_nil)))))) dss_nil))
      (dss_cons (ds_cut (ds_if (dt_cmp (od_eq hr.units) (dp_of (C_next.d0 rfl hr hg (atAll pass0) (das_cons (de_var 0) (das_cons de_int das_nil)))) (dp_of de_int) (nomark _)) (dss_one (ds_par (i := 3) (j := 4) rfl sc_turn.nd rfl rfl (by decide) rfl rfl (das_cons (de_var 4) (das_cons (de_var 3) das_nil)) (by rfl))) dss_nil))
      (dss_cons (ds_set (i := 6) sc_turn.nd rfl (Or.inl rfl) (C_next.d0 rfl hr hg (atAll pass0) (das_cons (de_var 0) (das_cons de_int das_nil))))
      (dss_one (ds_ret (de_tup (das_cons (de_op od_mul (dp_var 3) (dp_of (de_op od_sub (dp_of de_int) (dp_of (de_op od_mul (dp_of de_int) (dp_of (de_op od_mod (dp_var 6) (dp_of de_int)))))))) (das_cons (de_op od_mul (dp_var 4) (dp_of (de_op od_sub (dp_of de_int) (dp_of (de_op od_mul (dp_of de_int) (dp_of (de_op od_fdiv (dp_var 6) (dp_of de_int)))))))) (das_cons (de_var 5) das_nil))))))))))))), fun ds z R RX h => ?_⟩
  · obtain ⟨p, c, zb, rfl, rfl, _⟩ := spTurn_un h
    rfl
  · obtain ⟨p, c, zb, rfl, rfl, hc, k⟩ := spTurn_un h
    walk_at "d"
    refine use_next hc (by decide) (by decide) fun m c1 hd0 hd1 hc1 => ?_
    walk_at "d"
    refine use_next hc1 (by omega) (Int.lt_of_le_of_lt (show 1 + m + 1 ≤ 11 by omega) (by decide)) fun n c2 he0 he1 hc2 => ?_
    walk_at "d"
    have cm : ∀ x y : Int, x.natAbs < 2 ^ 20 → y.natAbs < 2 ^ 20 → CMulW x y := fun x y hx hy => wide_mul hx hy (by decide) (by decide) (by decide)
    have hm0 : 0 ≤ (1 + m) * (1 + m) ∧ 1 ≤ (1 + m) * (1 + m) ∧ (1 + m) * (1 + m) ≤ 81 := by
      rcases (show m = 0 ∨ m = 1 ∨ m = 2 ∨ m = 3 ∨ m = 4 ∨ m = 5 ∨ m = 6 ∨ m = 7 ∨ m = 8 by omega) with rfl | rfl | rfl | rfl | rfl | rfl | rfl | rfl | rfl <;> decide
    obtain ⟨m', hm'⟩ : ∃ m', m' = 1 + m := ⟨_, rfl⟩
    rw [← hm'] at he1 hm0 ⊢
    have bn : 0 ≤ n ∧ n ≤ 9 ∧ n ≤ m' := by omega
    have bm : 1 ≤ m' ∧ m' ≤ 9 := by omega
    have nn0 : ∀ x : Int, 0 ≤ x → 0 ≤ x * x := fun x h => Int.mul_nonneg h h
    refine ⟨fun ρ z' => ∃ n' : Int, 0 ≤ n' ∧ n' ≤ 9 ∧ m' * m' + n' * n' ≤ 100 ∧ ρ = [.val (.adr p), .val (.int m'), .val (.int n'), .any, .any, .any, .any] ∧ z' = zb.put p c2, ?_, ?_⟩
    · walk_at "d"
      refine ⟨cm _ _ (by omega) (by omega), cm _ _ (by omega) (by omega), ?_⟩
      refine iteD (fun q => ?_) (fun q => ?_)
      · exact ⟨0, by decide, by decide, by omega, rfl⟩
      · exact ⟨n, bn.1, bn.2.1, by omega, rfl⟩
    rintro ρ z' ⟨n', hn0, hn1, hmn, rfl, rfl⟩
    walk_at "d"
    have sq0 := nn0 n' hn0
    have mn0 : 0 ≤ m' * n' := Int.mul_nonneg (by omega) hn0
    have mn1 : 2 * m' * n' ≤ m' * m' + n' * n' := by
      have : 0 ≤ (m' - n') * (m' - n') := by
        rcases Int.le_total 0 (m' - n') with h | h
        · exact Int.mul_nonneg h h
        · rw [← Int.neg_mul_neg]; exact Int.mul_nonneg (by omega) (by omega)
      have e : (m' - n') * (m' - n') = m' * m' + n' * n' - 2 * m' * n' := by grind
      omega
    have mn2 : 0 ≤ 2 * m' * n' := by rw [Int.mul_assoc]; omega
    have T0 : Turn (m' * m' - n' * n') (2 * m' * n') (m' * m' + n' * n') := ⟨by grind, by omega, hmn, by omega, by omega⟩
    refine ⟨cm _ _ (by omega) (by omega), cm _ _ (by omega) (by omega), cm _ _ (by decide) (by omega), cm _ _ (by omega) (by omega), cm _ _ (by omega) (by omega), cm _ _ (by omega) (by omega), ?_⟩
    generalize m' * m' - n' * n' = a0 at T0 ⊢
    generalize 2 * m' * n' = b0 at T0 ⊢
    generalize m' * m' + n' * n' = d0 at T0 ⊢
    refine ⟨fun ρ z' => ∃ (a b d : Int) (c' : Cell), Turn a b d ∧ PotC c' ∧ ρ = [.val (.adr p), .val (.int m'), .val (.int n'), .val (.int a), .val (.int b), .val (.int d), .any] ∧ z' = zb.put p c', ?_, ?_⟩
    · walk_at "d"
      refine use_next hc2 (by decide) (by decide) fun x c3 hx0 hx1 hc3 => ?_
      walk_at "d"
      refine iteD (fun q => ?_) (fun q => ?_)
      · walk_at "d"
        refine use_next hc3 (by decide) (by decide) fun y c4 hy0 hy1 hc4 => ?_
        refine pickG (Pd := fun d => ∃ a b e : Int, d = .tup [.int a, .int b, .int e] ∧ Turn a b e) hy0 (show y < ((6 : Nat) : Int) from hy1) ?_ ?_
        · refine List.forall_mem_cons.mpr ⟨⟨_, _, _, rfl, ?_⟩, List.forall_mem_cons.mpr ⟨⟨_, _, _, rfl, ?_⟩, List.forall_mem_cons.mpr ⟨⟨_, _, _, rfl, ?_⟩, List.forall_mem_cons.mpr ⟨⟨_, _, _, rfl, ?_⟩, List.forall_mem_cons.mpr ⟨⟨_, _, _, rfl, ?_⟩, List.forall_mem_cons.mpr ⟨⟨_, _, _, rfl, ?_⟩, fun _ h => (nomatch h)⟩⟩⟩⟩⟩⟩
          all_goals exact ⟨by decide, by decide, by decide, by decide, by decide⟩
        · rintro d ⟨a, b, e, rfl, Te⟩
          walk_at "d"
          exact ⟨a, b, e, c4, Te, hc4, rfl, rfl⟩
      · exact ⟨a0, b0, d0, c3, T0, hc3, rfl, rfl⟩
    rintro ρ z' ⟨a, b, d, c3, Ta, hc3, rfl, rfl⟩
    refine ⟨fun ρ z' => ∃ (a b : Int) (c' : Cell), Turn a b d ∧ PotC c' ∧ ρ = [.val (.adr p), .val (.int m'), .val (.int n'), .val (.int a), .val (.int b), .val (.int d), .any] ∧ z' = zb.put p c', ?_, ?_⟩
    · walk_at "d"
      refine use_next hc3 (by decide) (by decide) fun x c4 hx0 hx1 hc4 => ?_
      walk_at "d"
      refine iteD (fun q => ?_) (fun q => ?_)
      · exact ⟨b, a, c4, ⟨by have := Ta.py; omega, Ta.c0, Ta.c1, Ta.bb, Ta.ab⟩, hc4, rfl, rfl⟩
      · exact ⟨a, b, c4, Ta, hc4, rfl, rfl⟩
    rintro ρ z' ⟨a, b, c4, Tb, hc4, rfl, rfl⟩
    walk_at "d"
    refine use_next hc4 (by decide) (by decide) fun x c5 hx0 hx1 hc5 => ?_
    walk_at "d"
    have sg : ∀ y : Int, y = 0 ∨ y = 1 → ∀ v : Int, v.natAbs ≤ 100 → CMulW 2 y ∧ CMulW v (1 - 2 * y) ∧ (v * (1 - 2 * y)).natAbs ≤ 100 ∧ (v * (1 - 2 * y)) * (v * (1 - 2 * y)) = v * v := fun y hy v hv => by
      rcases hy with rfl | rfl
      · exact ⟨cm _ _ (by decide) (by decide), cm _ _ (by omega) (by decide), by rw [show (1 : Int) - 2 * 0 = 1 from rfl, Int.mul_one]; exact hv, by rw [show (1 : Int) - 2 * 0 = 1 from rfl, Int.mul_one]⟩
      · exact ⟨cm _ _ (by decide) (by decide), cm _ _ (by omega) (by decide), by rw [show (1 : Int) - 2 * 1 = -1 from rfl]; omega, by rw [show (1 : Int) - 2 * 1 = -1 from rfl]; grind⟩
    obtain ⟨s1, s2, s3, s4⟩ := sg (x % 2) (by omega) a Tb.ab
    obtain ⟨r1, r2, r3, r4⟩ := sg (x / 2) (by omega) b Tb.bb
    refine ⟨by decide, s1, s2, by decide, ?_⟩
    rw [if_pos (by decide)]
    exact ⟨r1, r2, k _ _ _ _ ⟨by rw [s4, r4]; exact Tb.py, Tb.c0, Tb.c1, s3, r3⟩ hc5⟩
end

/-! ### reading steps over trees -/
local macro_rules | `(tactic| walk_at "d") => `(tactic| try simp -implicitDefEqProofs only [cxK, noxK, wishK, startD, startI, List.map_cons, List.map_nil, List.length_cons, List.length_nil, List.length_singleton, Nat.zero_add, Nat.reduceAdd, Nat.reduceSub, Nat.add_one_sub_one, List.replicate_succ, List.replicate_zero, List.cons_append, List.nil_append, List.append_nil,
  ap_dVar, ap_dPeek, ap_dC, ap_dOp, ap_dTest, ap_dChain, ap_dTru, ap_dAndB, ap_dOrB, ap_dNotB, ap_dAnd, ap_dOr, ap_dNot, ap_dNil, ap_dCons, ap_dTup, ap_dLst, ap_dLet, ap_dSized, ap_dUn, ap_dNoPart, ap_dPart, ap_dSl, ap_dFn, ap_dMt, ap_dMt0, ap_dFs, ap_dFmt, ap_dJoin, ap_dNext, ap_dSeq, ap_dDrop, ap_dRet, ap_dIf, ap_dAsg, ap_dSet, ap_dOwn, ap_dAppend, ap_dAug, ap_dFldS, ap_dPar, ap_dPar3, ap_dIt, ap_dItA, ap_dFor, ap_dLc, ap_dYes, ap_dCall, ap_dCall0, ap_dCallKw, ap_dCallKw0, ap_dMeth, ap_dMeth0, ap_dMethKw, ap_dOne, ap_dFmtO, ap_dEqO, ap_dReqO, ap_dMake, ap_dMake0, ap_dMakeKw, ap_dMakeKw0, ap_dRaise, ap_dPair, ap_dCat, ex_obj1, ex_obj2, ex_ins1, ex_ins2, ex_str, ex_own, ex_val, ap_ix0, ap_ix1, ap_ix2, e_lenOk, e_isStr, le_sz0, le_sz1, le_sz2, le_sz3, le_sz4, le_sz5, le_sz6, le_sz7, le_sz8, ap_dIfE, ap_isD, ap_in1, ap_in2, ap_in3, ap_isi, ap_sum, ap_any, ap_dJs0, ap_dJs1, ap_dgName, ap_dgTup, ap_dgCons, ap_dgNil, ap_dTry, ap_dXf, e_tru1, e_tru2, e_tru3, e_tru4, e_tru5, e_tru6, e_tru7, e_fmtD1, e_fmtD2, e_iterD1, e_iterD2, e_iterD3, e_iterD4, e_addD1, e_addD2, e_addD3, e_addD4, e_subD1, e_mulD1, e_mulD2, e_mulD3, e_fdivD1, e_modD1, e_powD1, e_cmpD1, e_cmpD2, e_eqD1, e_eqD2, e_eqD3, e_eqD4, e_eqD5, e_eqD6, e_eqD7, e_eqD8, e_eqD9, e_eqD10, e_eqD11, e_eqD12, e_eqD13, e_eqD14, e_isNonD1, e_negD1, e_ixD1, e_ixD2, e_ixD3, e_ixD4, e_slD1, e_slD2, e_slD3, e_slD4, e_lenD1, e_lenD2, e_lenD3, e_lenD4, e_absD1, e_mmD1, e_intD1, e_intD2, e_intD3, e_strD1, e_strD2, e_tupleD1, e_tupleD2, e_tupleD3, e_listD1, e_listD2, e_listD3, e_splitD1, e_joinD1, e_joinD2, e_str1D1, e_iaddD1, e_iaddD2, e_imulD1, e_ifdivD1, e_enumD1, e_enumD2, e_zipF1, e_zipF2, e_rng11, e_rng21, e_rng31, e_fldD1, e_dixD1, e_dixD2, e_revSD1, e_catD1, ap_dTryK, ap_dSetX, kx_any, kx_val, kx_own, kx_exc, e_xfD, e_nonX, e_rngW, ap_dExtend, e_extD, ap_best, ap_dItR, e_revF1, e_revF2, e_revF3, ap_dTryN, ap_dRaiseU, ap_dSplitN, e_splitN, ap_dSetIx, e_setD, e_zipG, ap_dTupO, e_caseD, e_rngS, e_enumG, ap_dInO, ap_dPopSet, e_popD, ap_dAppPop, ap_dPairON, ap_dListN, e_listN1, e_listN2, e_listN3, e_listN4, e_isB, ap_dIsX, ap_dgLst, ap_dReprT, ap_dBoolO, ap_dEqG, e_shlD1, e_eqE, ap_dPar3O, ap_bestT, ap_dPar3E, e_kin, e_kix, e_index, ap_dPut2, ap_dDic2, ap_getD2, ap_dItK, ap_dTwoE, ap_dAppA, ap_dTwo, ap_dZipN, ap_dCallV, ap_dIsE, e_zipG3, e_mm3, ap_dPar3EN, ap_dVals0, ap_dVals, ap_dMemD, ap_dMem, ap_dMixL, ap_dMixK, ap_dMsetL, ap_dMsetK, ap_dFrz, e_mixL, e_msetL, e_mulBD, Z.put_put, ap_dInsert0, ap_dMslL, e_mslL, ap_dDictP, e_dictPD, ap_dTry2, ap_dCallW, ap_dMset2, e_minK, ap_dMinK, e_mixK, ap_dMixK, e_msetK, ap_dIsE, ap_dExc, ap_dExcKw, ap_dExcU, e_xfG, ap_dDicF, ap_dAppM, e_mapp, ap_dThenFrz, ap_dInL, ltD, leD, gtD, geD, minD, maxD, wipeD,
  List.set_cons_zero, List.set_cons_succ, List.getElem?_cons_zero, List.getElem?_cons_succ, List.length_set, if_true, if_false, Bool.false_eq_true, reduceIte, id, Bool.not_true, Bool.not_false, true_and, and_true, List.zip_cons_cons, List.zip_nil_right, List.zip_nil_left, reduceCtorEq, Option.some.injEq,
  Nat.reduceLT, Nat.reduceLeDiff, Nat.reduceEqDiff, and_self, ite_self, decide_true, decide_false, eq_self])
local macro_rules | `(tactic| walk_at "ds") => `(tactic| first | rfl | decide | assumption | omega | exact Nat.le_of_ble_eq_true rfl)

section
/-! ### things of any kind -/
def flatD : D → Prop
  | .non | .bl _ | .int _ => True
  | .str s => s.length ≤ 1000
  | .tup ds | .lst ds => ds.length ≤ 1000
  | .dic _ _ => True
  | _ => False
def isIntB : D → Bool
  | .int _ | .bl _ => true
  | _ => false
def isBlB : D → Bool
  | .bl _ => true
  | _ => false
def isStrB : D → Bool
  | .str _ => true
  | _ => false
def isTupB : D → Bool
  | .tup _ => true
  | _ => false
variable {K : PySem.W.Frag}
theorem kit_type {n : String} : PySem.W.kitOne K (.type n) (.type n) = some true := by
  unfold PySem.W.kitOne
  rw [if_pos (by simp)]
theorem isi_int {d : D} (hd : flatD d) {k : Bool → Prop} (h : k (isIntB d)) : ∃ t u b, tyD K d t ∧ clsD (D.ty "int") = some u ∧ PySem.W.kitOne K t u = some b ∧ k b := by
  cases d with
  | non => exact ⟨_, _, _, rfl, rfl, rfl, h⟩
  | bl b => exact ⟨_, _, _, rfl, rfl, rfl, h⟩
  | int i => exact ⟨_, _, _, rfl, rfl, kit_type, h⟩
  | str s => exact ⟨_, _, _, rfl, rfl, rfl, h⟩
  | tup s => exact ⟨_, _, _, rfl, rfl, rfl, h⟩
  | lst s => exact ⟨_, _, _, rfl, rfl, rfl, h⟩
  | dic a b => exact ⟨_, _, _, rfl, rfl, rfl, h⟩
  | _ => exact hd.elim
theorem isi_bool {d : D} (hd : flatD d) {k : Bool → Prop} (h : k (isBlB d)) : ∃ t u b, tyD K d t ∧ clsD (D.ty "bool") = some u ∧ PySem.W.kitOne K t u = some b ∧ k b := by
  cases d with
  | non => exact ⟨_, _, _, rfl, rfl, rfl, h⟩
  | bl b => exact ⟨_, _, _, rfl, rfl, kit_type, h⟩
  | int i => exact ⟨_, _, _, rfl, rfl, rfl, h⟩
  | str s => exact ⟨_, _, _, rfl, rfl, rfl, h⟩
  | tup s => exact ⟨_, _, _, rfl, rfl, rfl, h⟩
  | lst s => exact ⟨_, _, _, rfl, rfl, rfl, h⟩
  | dic a b => exact ⟨_, _, _, rfl, rfl, rfl, h⟩
  | _ => exact hd.elim
end

/-- smaller than 2 ^ n -/
def Bd (n : Nat) (i : Int) : Prop := i.natAbs < 2 ^ n
theorem Bd.mul {n m : Nat} {i j : Int} (h : Bd n i) (k : Bd m j) : Bd (n + m) (i * j) := wide_lt h k
theorem Bd.mono {n m : Nat} {i : Int} (h : Bd n i) (k : n ≤ m) : Bd m i := Nat.lt_of_lt_of_le h (Nat.pow_le_pow_right (by decide) k)
theorem Bd.sub {n : Nat} {i j : Int} (h : Bd n i) (k : Bd n j) : Bd (n + 1) (i - j) := by
  unfold Bd at *
  have e : 2 ^ (n + 1) = 2 * 2 ^ n := by rw [Nat.pow_succ, Nat.mul_comm]
  rw [e]
  generalize 2 ^ n = N at *
  omega
theorem Bd.le {n : Nat} {i j : Int} (h : Bd n i) (k : j.natAbs ≤ i.natAbs) : Bd n j := Nat.lt_of_le_of_lt k h
set_option exponentiation.threshold 9000 in
theorem Bd.mulW {n m : Nat} {i j : Int} (h : Bd n i) (k : Bd m j) (hn : n ≤ 8000 := by decide) (hm : m ≤ 8000 := by decide) : CMulW i j := by
  unfold CMulW
  have h1 : i.natAbs.log2 < 8001 := PySem.Flt.log2_lt_of (by decide) (h.mono (by omega : n ≤ 8001))
  have h2 : j.natAbs.log2 < 8001 := PySem.Flt.log2_lt_of (by decide) (k.mono (by omega : m ≤ 8001))
  omega
section
variable {P : Program} {w : World} {K : PySem.W.Frag} {mg : Str → Option Value} {base : Heap} {f : Addr} {fd : FuncData} {CG CB CE CS CQ CU CM CD CC CA CR CN CL CT : Addr}
def wholeB (d : D) : Bool := isIntB d && !isBlB d
@[irreducible] def spWholeP : PSp := fun ds z R _ => ∃ d, ds = [d] ∧ flatD d ∧ R (.bl (wholeB d)) z
theorem spWholeP_of  {ds : List D} {z : Z} {R : D → Z → Prop} {E : PX} (h_ : ∃ d, ds = [d] ∧ flatD d ∧ R (.bl (wholeB d)) z) : spWholeP ds z R E := by unfold spWholeP; exact h_
theorem spWholeP_un  {ds : List D} {z : Z} {R : D → Z → Prop} {E : PX} (h_ : spWholeP ds z R E) : ∃ d, ds = [d] ∧ flatD d ∧ R (.bl (wholeB d)) z := by unfold spWholeP at h_; exact h_
abbrev s_is_whole : Stmt := (top 11)
abbrev is_whole.N : List Str := ["thing"]
abbrev is_whole.ps : List Str := ["thing"]
theorem sc_is_whole : FnScope is_whole.N is_whole.ps (defScope s_is_whole) := ⟨rfl, rfl, rfl, by decide +kernel, rfl, by decide +kernel, by decide +kernel⟩
theorem ok_is_wholeP (F : Fun K "is_whole" "is_whole" s_is_whole f fd) (T : T52 mg) : FnG P w K mg base CX0 1 f fd is_whole.ps (lift K spWholeP) := by
  refine dbody F sc_is_whole (fun ds z R RX h => ?_) fun cdv A outer s H E hr hg => ⟨_, (dss_one (ds_ret (de_and (de_fn (cd_isiK (K := K) rfl) (by rfl) T.b_isinstance (by decide +kernel) (da_cons (dp_var 0) (da_cons (dp_of (de_c (pe_bltn (v := .ty "int") (u := .type "int") (by rfl) T.b_int (by decide +kernel) rfl) (fun _ _ => Rep.t))) da_nil))) (de_one (de_not (dp_of (de_fn (cd_isiK (K := K) rfl) (by rfl) T.b_isinstance (by decide +kernel) (da_cons (dp_var 0) (da_cons (dp_of (de_c (pe_bltn (v := .ty "bool") (u := .type "bool") (by rfl) T.b_bool (by decide +kernel) rfl) (fun _ _ => Rep.t))) da_nil))))))))), fun ds z R RX h => ?_⟩
  · obtain ⟨n, rfl, _⟩ := spWholeP_un h
    rfl
  · obtain ⟨d, rfl, hd, k⟩ := spWholeP_un h
    walk_at "d"
    refine isi_int hd ?_
    unfold wholeB at k
    cases hI : isIntB d with
    | true =>
      rw [if_pos rfl]
      rw [hI, Bool.true_and] at k
      exact isi_bool hd k
    | false =>
      rw [if_neg Bool.false_ne_true]
      rw [hI, Bool.false_and] at k
      exact k
def turnB : D → D → D → Bool
  | .int a, .int b, .int c => decide (1 ≤ c) && decide (c ≤ 100) && decide (a * a + b * b = c * c)
  | _, _, _ => false
def BdD (n : Nat) (d : D) : Prop := ∀ i, d = .int i → Bd n i
@[irreducible] def spTurnP : PSp := fun ds z R _ => ∃ x y u, ds = [x, y, u] ∧ flatD x ∧ flatD y ∧ flatD u ∧ BdD 1000 x ∧ BdD 1000 y ∧ BdD 1000 u ∧ R (.bl (turnB x y u)) z
theorem spTurnP_of  {ds : List D} {z : Z} {R : D → Z → Prop} {E : PX} (h_ : ∃ x y u, ds = [x, y, u] ∧ flatD x ∧ flatD y ∧ flatD u ∧ BdD 1000 x ∧ BdD 1000 y ∧ BdD 1000 u ∧ R (.bl (turnB x y u)) z) : spTurnP ds z R E := by unfold spTurnP; exact h_
theorem spTurnP_un  {ds : List D} {z : Z} {R : D → Z → Prop} {E : PX} (h_ : spTurnP ds z R E) : ∃ x y u, ds = [x, y, u] ∧ flatD x ∧ flatD y ∧ flatD u ∧ BdD 1000 x ∧ BdD 1000 y ∧ BdD 1000 u ∧ R (.bl (turnB x y u)) z := by unfold spTurnP at h_; exact h_
abbrev s_is_turn : Stmt := (top 12)
abbrev is_turn.N : List Str := ["a", "b", "c"]
abbrev is_turn.ps : List Str := ["a", "b", "c"]
theorem sc_is_turn : FnScope is_turn.N is_turn.ps (defScope s_is_turn) := ⟨rfl, rfl, rfl, by decide +kernel, rfl, by decide +kernel, by decide +kernel⟩
theorem ok_is_turn (F : Fun K "is_turn" "is_turn" s_is_turn f fd) (T : T52 mg) (C_is_whole : Callee P w K mg base CX0 1 "is_whole" s_is_whole is_whole.ps (lift K spWholeP)) : FnG P w K mg base CX0 2 f fd is_turn.ps (lift K spTurnP) := by
  refine dbody F sc_is_turn (fun ds z R RX h => ?_) fun cdv A outer s H E hr hg => ⟨_, (dss_cons (ds_if (DWt.pt (dw_or (dt_not (dt_truth (dp_of (C_is_whole.d0 rfl hr hg (atAll pass0) (das_cons (de_var 0) das_nil))))) (dw_or (dt_not (dt_truth (dp_of (C_is_whole.d0 rfl hr hg (atAll pass0) (das_cons (de_var 1) das_nil))))) (dw_or1 (dt_not (dt_truth (dp_of (C_is_whole.d0 rfl hr hg (atAll pass0) (das_cons (de_var 2) das_nil))))))))) (dss_one (ds_ret de_bl)) dss_nil)
      (dss_one (ds_ret (de_and (de_chain od_le od_le (dp_of de_int) (dp_var 2) (dp_of (de_c (pe_globI rfl T.g_MOST_TURN) (fun _ _ => Rep.i)))) (de_one (de_cmp (od_eq hr.units) (dp_of (de_op od_add (dp_of (de_op od_mul (dp_var 0) (dp_var 0))) (dp_of (de_op od_mul (dp_var 1) (dp_var 1))))) (dp_of (de_op od_mul (dp_var 2) (dp_var 2))) (nomark _))))))), fun ds z R RX h => ?_⟩
  · obtain ⟨x, y, u, rfl, _⟩ := spTurnP_un h
    rfl
  · obtain ⟨x, y, u, rfl, fx, fy, fu, bx, by_, bu, k⟩ := spTurnP_un h
    have int_or : ∀ d : D, (∃ i, d = .int i) ∨ (wholeB d = false ∧ ∀ i, d ≠ .int i) := fun d => by
      cases d with
      | int i => exact .inl ⟨i, rfl⟩
      | bl b => exact .inr ⟨rfl, fun i h => nomatch h⟩
      | _ => exact .inr ⟨rfl, fun i h => nomatch h⟩
    walk_at "d"
    refine spWholeP_of ⟨x, rfl, fx, ?_⟩
    rcases int_or x with ⟨a, rfl⟩ | ⟨h1, h2⟩
    · rw [show wholeB (.int a) = true from rfl]
      walk_at "d"
      refine spWholeP_of ⟨y, rfl, fy, ?_⟩
      rcases int_or y with ⟨b, rfl⟩ | ⟨h1, h2⟩
      · rw [show wholeB (.int b) = true from rfl]
        walk_at "d"
        refine spWholeP_of ⟨u, rfl, fu, ?_⟩
        rcases int_or u with ⟨c, rfl⟩ | ⟨h1, h2⟩
        · rw [show wholeB (.int c) = true from rfl]
          walk_at "d"
          have ba := bx a rfl
          have bb := by_ b rfl
          have bc := bu c rfl
          rw [show turnB (.int a) (.int b) (.int c) = (decide (1 ≤ c) && decide (c ≤ 100) && decide (a * a + b * b = c * c)) from rfl] at k
          by_cases q1 : 1 ≤ c
          · rw [decide_eq_true q1, Bool.true_and] at k
            rw [decide_eq_true q1]
            walk_at "d"
            by_cases q2 : c ≤ 100
            · rw [decide_eq_true q2, Bool.true_and] at k
              rw [decide_eq_true q2]
              walk_at "d"
              exact ⟨ba.mulW ba, bb.mulW bb, bc.mulW bc, k⟩
            · rw [decide_eq_false q2, Bool.false_and] at k
              rw [decide_eq_false q2]
              walk_at "d"
              exact k
          · rw [decide_eq_false q1, Bool.false_and, Bool.false_and] at k
            rw [decide_eq_false q1]
            walk_at "d"
            exact k
        · rw [h1]
          walk_at "d"
          have : turnB (.int a) (.int b) u = false := by cases u <;> first | rfl | exact absurd rfl (h2 _)
          rw [this] at k
          exact k
      · rw [h1]
        walk_at "d"
        have : turnB (.int a) y u = false := by cases y <;> first | rfl | exact absurd rfl (h2 _)
        rw [this] at k
        exact k
    · rw [h1]
      walk_at "d"
      have : turnB x y u = false := by cases x <;> first | rfl | exact absurd rfl (h2 _)
      rw [this] at k
      exact k
theorem heap_one {H : Hp} {a d : Addr} {o1 o2 o3 : HO} (n : d ≠ a) : upd (upd (upd H d o1) a o2) d o3 = upd (upd H d o3) a o2 := by
  funext b
  by_cases hb : b = d
  · subst hb; rw [upd_same, upd_ne n, upd_same]
  · rw [upd_ne hb]
    by_cases hba : b = a
    · subst hba; rw [upd_same, upd_same]
    · rw [upd_ne hba, upd_ne hb, upd_ne hba, upd_ne hb]
abbrev s_BadTurn_init : Stmt := (inClass (top 8) 0)
abbrev BadTurn_init.N : List Str := ["self", "a", "b", "c"]
abbrev BadTurn_init.ps : List Str := ["self", "a", "b", "c"]
theorem sc_BadTurn_init : FnScope BadTurn_init.N BadTurn_init.ps (defScope s_BadTurn_init) := ⟨rfl, rfl, rfl, by decide +kernel, rfl, by decide +kernel, by decide +kernel⟩
theorem ok_BadTurn_init (F : Fun K "__init__" "BadTurn.__init__" s_BadTurn_init f fd) (O : OexC K CT) (hno : PySem.W.findIn K (.ref CT) "a" = some none) (hno2 : PySem.W.findIn K (.ref CT) "b" = some none) (hno3 : PySem.W.findIn K (.ref CT) "c" = some none) (B_GridError : GBase K mg "GridError" CE) :
    FnOk P w K mg base CX0 1 f fd BadTurn_init.ps (spX CT ["a", "b", "c"]) := by
  refine F.ok sc_BadTurn_init (fun vs H Q E h => ?_) (fun cdv A outer s H vs Q E hr h => ?_)
  · obtain ⟨a, ws, rfl, hl, _⟩ := h
    match ws, hl with
    | [_, _, _], _ => rfl
  · obtain ⟨a, ws, rfl, hl, ha, k⟩ := h
    match ws, hl with
    | [v, v2, v3], _ =>
      refine ⟨_, (pss_cons (ps_expr (pe_ginit rfl B_GridError.mgx B_GridError.sg B_GridError.rd B_GridError.vV (pa_cons (pv 0) (pa_cons pe_str pa_nil))))
      (pss_cons (ps_ost (pv 0) (pv 1) rfl)
      (pss_cons (ps_ost (pv 0) (pv 2) rfl)
      (pss_one (ps_ost (pv 0) (pv 3) rfl))))), ?_⟩
      refine ⟨_, rfl, a, CT, _, rfl, by decide, O, ha, ?_⟩
      refine ⟨_, rfl, _, rfl, a, CT, rfl, O, hno, .inl ⟨ha, fun dx hd n => ?_⟩⟩
      refine ⟨_, rfl, _, rfl, a, CT, rfl, O, hno2, .inr ⟨dx, [("a", v)], upd_same, by rw [upd_ne n, upd_same], by show 1 ≤ 900; decide, ?_⟩⟩
      rw [heap_one n]
      refine ⟨_, rfl, _, rfl, a, CT, rfl, O, hno3, .inr ⟨dx, [("b", v2), ("a", v)], upd_same, by rw [upd_ne n, upd_same], by show 2 ≤ 900; decide, ?_⟩⟩
      have := k dx hd n
      rw [heap_one n]
      exact this
abbrev layNs : List Str := ["grid", "a", "b", "c", "east", "north"]
def layD (CL : Addr) (g x y u e n : D) : D := .ins CL layNs [g, x, y, u, e, n]
section
variable {g x y u e n : D} {k : D → Prop}
theorem fldL_grid (O : Own K CL layNs) : fldD K "grid" (layD CL g x y u e n) k = k g := fld_of (O.at (by simp)) rfl
theorem fldL_a (O : Own K CL layNs) : fldD K "a" (layD CL g x y u e n) k = k x := fld_of (O.at (by simp)) rfl
theorem fldL_b (O : Own K CL layNs) : fldD K "b" (layD CL g x y u e n) k = k y := fld_of (O.at (by simp)) rfl
theorem fldL_c (O : Own K CL layNs) : fldD K "c" (layD CL g x y u e n) k = k u := fld_of (O.at (by simp)) rfl
theorem fldL_east (O : Own K CL layNs) : fldD K "east" (layD CL g x y u e n) k = k e := fld_of (O.at (by simp)) rfl
theorem fldL_north (O : Own K CL layNs) : fldD K "north" (layD CL g x y u e n) k = k n := fld_of (O.at (by simp)) rfl
end
@[irreducible] def spLayI (CT : Addr) : ISp := fun ds z R RX => ∃ g x y u e n, ds = [g, x, y, u, e, n] ∧ flatD x ∧ flatD y ∧ flatD u ∧ BdD 1000 x ∧ BdD 1000 y ∧ BdD 1000 u ∧ ((turnB x y u = true ∧ R layNs [g, x, y, u, e, n] z) ∨ (turnB x y u = false ∧ RX CT ["a", "b", "c"] [x, y, u] z))
theorem spLayI_of {CT : Addr} {ds : List D} {z : Z} {R : List Str → List D → Z → Prop} {RX : PX} (h_ : ∃ g x y u e n, ds = [g, x, y, u, e, n] ∧ flatD x ∧ flatD y ∧ flatD u ∧ BdD 1000 x ∧ BdD 1000 y ∧ BdD 1000 u ∧ ((turnB x y u = true ∧ R layNs [g, x, y, u, e, n] z) ∨ (turnB x y u = false ∧ RX CT ["a", "b", "c"] [x, y, u] z))) : spLayI CT ds z R RX := by unfold spLayI; exact h_
theorem spLayI_un {CT : Addr} {ds : List D} {z : Z} {R : List Str → List D → Z → Prop} {RX : PX} (h_ : spLayI CT ds z R RX) : ∃ g x y u e n, ds = [g, x, y, u, e, n] ∧ flatD x ∧ flatD y ∧ flatD u ∧ BdD 1000 x ∧ BdD 1000 y ∧ BdD 1000 u ∧ ((turnB x y u = true ∧ R layNs [g, x, y, u, e, n] z) ∨ (turnB x y u = false ∧ RX CT ["a", "b", "c"] [x, y, u] z)) := by unfold spLayI at h_; exact h_
abbrev s_Lay_init : Stmt := (inClass (top 13) 0)
abbrev Lay_init.N : List Str := ["self", "grid", "a", "b", "c", "east", "north"]
abbrev Lay_init.ps : List Str := ["self", "grid", "a", "b", "c", "east", "north"]
theorem sc_Lay_init : FnScope Lay_init.N Lay_init.ps (defScope s_Lay_init) := ⟨rfl, rfl, rfl, by decide +kernel, rfl, by decide +kernel, by decide +kernel⟩
theorem ok_Lay_init (F : FunD K "__init__" "Lay.__init__" (defArgs s_Lay_init) (defBody s_Lay_init) (defScope s_Lay_init) [.int 1, .int 0, .int 1, .int 0, .int 0] [] f fd) (O : Own K CL layNs) (X_BadTurn : ExcOk P w K mg base "BadTurn" CT ["a", "b", "c"] BadTurn_init.ps)
    (T : T52 mg) (C_is_turn : Callee P w K mg base CX0 2 "is_turn" s_is_turn is_turn.ps (lift K spTurnP)) : FnG P w K mg base (L2.CX P w) 3 f fd Lay_init.ps (liftI K CL (spLayI CT)) := by
  refine ibodyXD F sc_Lay_init (fun ds z R RX h => ?_) fun cdv A outer s H E hr hg => ⟨_, (dss_cons (ds_if (dt_not (dt_truth (dp_of (C_is_turn.d0 rfl hr hg (atAll pass0) (das_cons (de_var 2) (das_cons (de_var 3) (das_cons (de_var 4) das_nil))))))) (dss_one (X_BadTurn.dRaise rfl rfl hr (takes_of rfl rfl rfl rfl) (das_cons (de_var 2) (das_cons (de_var 3) (das_cons (de_var 4) das_nil))))) dss_nil)
      (dss_cons (ds_fldS (i := 0) rfl (de_var 1) rfl)
      (dss_cons (ds_fldS (i := 0) rfl (de_var 2) rfl)
      (dss_cons (ds_fldS (i := 0) rfl (de_var 3) rfl)
      (dss_cons (ds_fldS (i := 0) rfl (de_var 4) rfl)
      (dss_cons (ds_fldS (i := 0) rfl (de_var 5) rfl)
      (dss_one (ds_fldS (i := 0) rfl (de_var 6) rfl)))))))), fun ds z R RX x h => ?_⟩
  · obtain ⟨g, x, y, u, e, n, rfl, _⟩ := spLayI_un h
    rfl
  · obtain ⟨g, x1, y, u, e, n, rfl, fx, fy, fu, bx, by_, bu, h⟩ := spLayI_un h
    walk_at "d"
    refine spTurnP_of ⟨x1, y, u, rfl, fx, fy, fu, bx, by_, bu, ?_⟩
    rcases h with ⟨ht, k⟩ | ⟨ht, k⟩
    · rw [ht]
      walk_at "d"
      exact ⟨O.at (by simp), by decide, O.at (by simp), by decide, O.at (by simp), by decide, O.at (by simp), by decide, O.at (by simp), by decide, O.at (by simp), by decide, k⟩
    · rw [ht]
      walk_at "d"
      exact k
end

/-! ### reading steps over trees -/

section
variable {P : Program} {w : World} {K : PySem.W.Frag} {mg : Str → Option Value} {base : Heap} {f : Addr} {fd : FuncData} {CG CB CE CS CQ CU CM CD CC CA CR CN CL CT : Addr}
theorem cat_len (a b : Str) : (a ++ b).length = a.length + b.length := by
  show (a.cps ++ b.cps).size = _
  rw [Array.size_append]; rfl
/-- a lay by its numbers -/
structure LayX where
  l : List Nat
  al : List (List Nat)
  a : Int
  b : Int
  c : Int
  e : Int
  n : Int
abbrev lyD (CL CG : Addr) (q : LayX) : D := layD CL (gridD CG q.l q.al) (.int q.a) (.int q.b) (.int q.c) (.int q.e) (.int q.n)
def lyEq (q r : LayX) : Prop := q.l = r.l ∧ q.a = r.a ∧ q.b = r.b ∧ q.c = r.c ∧ q.e = r.e ∧ q.n = r.n
instance (q r : LayX) : Decidable (lyEq q r) := by unfold lyEq; infer_instance
structure LayX.Ok (q : LayX) : Prop where
  len : q.l.length ≤ 100000
  ba : Bd 200 q.a
  bb : Bd 200 q.b
  bc : Bd 200 q.c
  be : Bd 200 q.e
  bn : Bd 200 q.n
@[irreducible] def spLyEq (K : PySem.W.Frag) (CL CG : Addr) : PSp := fun ds z R _ => ∃ q d, ds = [lyD CL CG q, d] ∧ LayX.Ok q ∧ ((∃ r, LayX.Ok r ∧ d = lyD CL CG r ∧ R (.bl (decide (lyEq q r))) z) ∨ ∃ ty, tyD K d ty ∧ PySem.W.kitOne K ty (.ref CL) = some false ∧ R (.bl false) z)
theorem spLyEq_of {K : PySem.W.Frag} {CL CG : Addr} {ds : List D} {z : Z} {R : D → Z → Prop} {E : PX} (h_ : ∃ q d, ds = [lyD CL CG q, d] ∧ LayX.Ok q ∧ ((∃ r, LayX.Ok r ∧ d = lyD CL CG r ∧ R (.bl (decide (lyEq q r))) z) ∨ ∃ ty, tyD K d ty ∧ PySem.W.kitOne K ty (.ref CL) = some false ∧ R (.bl false) z)) : spLyEq K CL CG ds z R E := by unfold spLyEq; exact h_
theorem spLyEq_un {K : PySem.W.Frag} {CL CG : Addr} {ds : List D} {z : Z} {R : D → Z → Prop} {E : PX} (h_ : spLyEq K CL CG ds z R E) : ∃ q d, ds = [lyD CL CG q, d] ∧ LayX.Ok q ∧ ((∃ r, LayX.Ok r ∧ d = lyD CL CG r ∧ R (.bl (decide (lyEq q r))) z) ∨ ∃ ty, tyD K d ty ∧ PySem.W.kitOne K ty (.ref CL) = some false ∧ R (.bl false) z) := by unfold spLyEq at h_; exact h_
abbrev s_Lay_eq : Stmt := (inClass (top 13) 1)
abbrev Lay_eq.N : List Str := ["self", "other", "mine"]
abbrev Lay_eq.ps : List Str := ["self", "other"]
theorem sc_Lay_eq : FnScope Lay_eq.N Lay_eq.ps (defScope s_Lay_eq) := ⟨rfl, rfl, rfl, by decide +kernel, rfl, by decide +kernel, by decide +kernel⟩
theorem ok_Lay_eq (F : Fun K "__eq__" "Lay.__eq__" s_Lay_eq f fd) (O : Own K CL layNs) (T : T52 mg) (G_Lay : mg "Lay" = some (.ref CL)) (GF : GridFn P w K mg base CG CB) : FnG P w K mg base CX0 3 f fd Lay_eq.ps (lift K (spLyEq K CL CG)) := by
  obtain ⟨O_Grid, G_Grid, N_Grid, R_Grid, W_Grid, I_Grid, C_Grid, C_Grid_eq, C_Grid_len, C_Grid_str, C_Grid_repr, C_Grid_alphabet, C_Grid_cut, C_Grid_side⟩ := GF
  refine dbody F sc_Lay_eq (fun ds z R RX h => ?_) fun cdv A outer s H E hr hg => ⟨_, (dss_cons (ds_if (dt_not (dt_truth (dp_of (de_fn (cd_isiK (K := K) rfl) (by rfl) T.b_isinstance (by decide +kernel) (da_cons (dp_var 1) (da_cons (dp_of (de_c (pe_globR rfl G_Lay) (fun _ _ => Rep.a))) da_nil)))))) (dss_one (ds_ret de_bl)) dss_nil)
      (dss_cons (ds_set (i := 2) sc_Lay_eq.nd rfl (Or.inl rfl) (de_tup (das_cons (de_fldK (K := K) rfl (dp_var 0) rfl) (das_cons (de_fldK (K := K) rfl (dp_var 0) rfl) (das_cons (de_fldK (K := K) rfl (dp_var 0) rfl) (das_cons (de_fldK (K := K) rfl (dp_var 0) rfl) (das_cons (de_fldK (K := K) rfl (dp_var 0) rfl) das_nil)))))))
      (dss_one (ds_ret (de_and (Method.dEqK (K := K) rfl C_Grid_eq hr hg (de_fldK (K := K) rfl (dp_var 0) rfl) (de_fldK (K := K) rfl (dp_var 1) rfl)) (de_one (de_cmp (od_eq hr.units) (dp_var 2) (dp_of (de_tup (das_cons (de_fldK (K := K) rfl (dp_var 1) rfl) (das_cons (de_fldK (K := K) rfl (dp_var 1) rfl) (das_cons (de_fldK (K := K) rfl (dp_var 1) rfl) (das_cons (de_fldK (K := K) rfl (dp_var 1) rfl) (das_cons (de_fldK (K := K) rfl (dp_var 1) rfl) das_nil))))))) (nomark _)))))))), fun ds z R RX h => ?_⟩
  · obtain ⟨q, d, rfl, _⟩ := spLyEq_un h
    rfl
  · obtain ⟨q, d, rfl, ok, h⟩ := spLyEq_un h
    obtain ⟨r, okr, rfl, k⟩ | ⟨t, ht, hk, k⟩ := h
    · walk_at "d"
      refine ⟨.ref CL, .ref CL, true, ⟨rfl, O.oty⟩, rfl, kit_self, ?_⟩
      walk_at "d"
      try simp only [fldL_grid O, fldL_a O, fldL_b O, fldL_c O, fldL_east O, fldL_north O]
      walk_at "d"
      try simp only [fldL_grid O, fldL_a O, fldL_b O, fldL_c O, fldL_east O, fldL_north O]
      walk_at "d"
      refine ⟨gridD_ins _ _ _, ⟨.ref CG, ⟨rfl, O_Grid.oty⟩, notFirst_self⟩, use_GEq ok.len ?_⟩
      walk_at "d"
      by_cases ql : q.l = r.l
      · rw [decide_eq_true ql]
        walk_at "d"
        try simp only [fldL_grid O, fldL_a O, fldL_b O, fldL_c O, fldL_east O, fldL_north O]
        walk_at "d"
        have tp : ∀ x : LayX, LayX.Ok x → okD (.tup [.int x.a, .int x.b, .int x.c, .int x.e, .int x.n]) ∧ noBl (.tup [.int x.a, .int x.b, .int x.c, .int x.e, .int x.n]) ∧ deepD (.tup [.int x.a, .int x.b, .int x.c, .int x.e, .int x.n]) ≤ 64 := fun x ox => by
          have lg : ∀ i : Int, Bd 200 i → i.natAbs.log2 < 1920 := fun i h => log_small (k := 200) h (by decide) (by decide)
          refine ⟨?_, ?_, ?_⟩
          · rw [okD]
            exact ok_ints (ns := [x.a, x.b, x.c, x.e, x.n]) fun n m => by
              simp only [List.mem_cons, List.not_mem_nil, or_false] at m
              rcases m with rfl | rfl | rfl | rfl | rfl
              · exact lg _ ox.ba
              · exact lg _ ox.bb
              · exact lg _ ox.bc
              · exact lg _ ox.be
              · exact lg _ ox.bn
          · rw [noBl]
            exact noBls_map (f := D.int) (l := [x.a, x.b, x.c, x.e, x.n]) fun n m => by rw [noBl] <;> simp
          · rw [deepD]
            have := deep_ints [x.a, x.b, x.c, x.e, x.n]
            show deepDs ([x.a, x.b, x.c, x.e, x.n].map D.int) + 1 ≤ 64
            omega
        obtain ⟨o1, n1, d1⟩ := tp q ok
        obtain ⟨o2, n2, d2⟩ := tp r okr
        refine use_eqD (.inr rfl) n1 n2 o1 o2 d1 d2 fun b hb => ?_
        have eb : b = decide (lyEq q r) := by
          by_cases hq : lyEq q r
          · rw [decide_eq_true hq]
            obtain ⟨_, h1, h2, h3, h4, h5⟩ := hq
            exact hb.mpr (by rw [h1, h2, h3, h4, h5])
          · rw [decide_eq_false hq]
            cases b with
            | false => rfl
            | true =>
              have h := hb.mp rfl
              simp only [D.tup.injEq, List.cons.injEq, D.int.injEq, and_true] at h
              exact absurd ⟨ql, h⟩ hq
        rw [eb]
        exact k
      · rw [decide_eq_false ql]
        walk_at "d"
        rw [decide_eq_false (show ¬ lyEq q r from fun h => ql h.1)] at k
        exact k
    · walk_at "d"
      refine ⟨t, .ref CL, false, ht, rfl, hk, ?_⟩
      walk_at "d"
      exact k
abbrev itS (i : Int) : Str := Str.ofString (toString i)
def lyR (q : LayX) : Str := Str.empty ++ Str.ofString "Lay('" ++ S q.l ++ Str.ofString "', " ++ itS q.a ++ Str.ofString "/" ++ itS q.b ++ Str.ofString "/" ++ itS q.c ++ Str.ofString ", " ++ itS q.e ++ Str.ofString "/" ++ itS q.n ++ Str.ofString ")"
@[irreducible] def spLyRepr (CL CG : Addr) : PSp := fun ds z R _ => ∃ q, ds = [lyD CL CG q] ∧ LayX.Ok q ∧ R (.str (lyR q)) z
theorem spLyRepr_of {CL CG : Addr} {ds : List D} {z : Z} {R : D → Z → Prop} {E : PX} (h_ : ∃ q, ds = [lyD CL CG q] ∧ LayX.Ok q ∧ R (.str (lyR q)) z) : spLyRepr CL CG ds z R E := by unfold spLyRepr; exact h_
theorem spLyRepr_un {CL CG : Addr} {ds : List D} {z : Z} {R : D → Z → Prop} {E : PX} (h_ : spLyRepr CL CG ds z R E) : ∃ q, ds = [lyD CL CG q] ∧ LayX.Ok q ∧ R (.str (lyR q)) z := by unfold spLyRepr at h_; exact h_
abbrev s_Lay_repr : Stmt := (inClass (top 13) 2)
abbrev Lay_repr.N : List Str := ["self"]
abbrev Lay_repr.ps : List Str := ["self"]
theorem sc_Lay_repr : FnScope Lay_repr.N Lay_repr.ps (defScope s_Lay_repr) := ⟨rfl, rfl, rfl, by decide +kernel, rfl, by decide +kernel, by decide +kernel⟩
theorem ok_Lay_repr (F : Fun K "__repr__" "Lay.__repr__" s_Lay_repr f fd) (O : Own K CL layNs) (T : T52 mg) (GF : GridFn P w K mg base CG CB) : FnG P w K mg base CX0 1 f fd Lay_repr.ps (lift K (spLyRepr CL CG)) := by
  obtain ⟨O_Grid, G_Grid, N_Grid, R_Grid, W_Grid, I_Grid, C_Grid, C_Grid_eq, C_Grid_len, C_Grid_str, C_Grid_repr, C_Grid_alphabet, C_Grid_cut, C_Grid_side⟩ := GF
  refine dbody F sc_Lay_repr (fun ds z R RX h => ?_) fun cdv A outer s H E hr hg => ⟨_, (dss_one (ds_ret (de_joined (pj_cons df_str (pj_cons (df_fmt (dp_of (de_fldK (K := K) rfl (dp_of (de_fldK (K := K) rfl (dp_var 0) rfl)) rfl))) (pj_cons df_str (pj_cons (df_fmt (dp_of (de_fldK (K := K) rfl (dp_var 0) rfl))) (pj_cons df_str (pj_cons (df_fmt (dp_of (de_fldK (K := K) rfl (dp_var 0) rfl))) (pj_cons df_str (pj_cons (df_fmt (dp_of (de_fldK (K := K) rfl (dp_var 0) rfl))) (pj_cons df_str (pj_cons (df_fmt (dp_of (de_fldK (K := K) rfl (dp_var 0) rfl))) (pj_cons df_str (pj_cons (df_fmt (dp_of (de_fldK (K := K) rfl (dp_var 0) rfl))) (pj_cons df_str pj_nil)))))))))))))))), fun ds z R RX h => ?_⟩
  · obtain ⟨q, rfl, _⟩ := spLyRepr_un h
    rfl
  · obtain ⟨q, rfl, ok, k⟩ := spLyRepr_un h
    have lg : ∀ i : Int, Bd 200 i → i.natAbs.log2 < 1920 := fun i h => log_small (k := 200) h (by decide) (by decide)
    have ln : ∀ i : Int, Bd 200 i → (itS i).length ≤ 2000 := fun i h => by
      have := PyProof.Rows.int_text_len_1921 (lg i h)
      exact Nat.le_trans this (by decide)
    have l1 : (Str.ofString (toString q.a)).length ≤ 2000 := ln _ ok.ba
    have l2 : (Str.ofString (toString q.b)).length ≤ 2000 := ln _ ok.bb
    have l3 : (Str.ofString (toString q.c)).length ≤ 2000 := ln _ ok.bc
    have l4 : (Str.ofString (toString q.e)).length ≤ 2000 := ln _ ok.be
    have l5 : (Str.ofString (toString q.n)).length ≤ 2000 := ln _ ok.bn
    have l0 : (S q.l).length ≤ 100000 := by rw [S_len]; exact ok.len
    have e0 : Str.empty.length = 0 := rfl
    have c1 : (Str.ofString "Lay('").length = 5 := by decide +kernel
    have c2 : (Str.ofString "', ").length = 3 := by decide +kernel
    have c3 : (Str.ofString "/").length = 1 := by decide +kernel
    have c4 : (Str.ofString ", ").length = 2 := by decide +kernel
    have c5 : (Str.ofString ")").length = 1 := by decide +kernel
    have hz : 200000 ≤ sizeLine := by decide
    have fi : ∀ (i : Int) (kk : Str → Prop), Bd 200 i → kk (itS i) → fmtD (.int i) kk := fun i kk h hk => ⟨lg i h, hk⟩
    have fs : ∀ (t : Str) (kk : Str → Prop), t.length ≤ 100000 → kk t → fmtD (.str t) kk := fun t kk h hk => ⟨by omega, hk⟩
    walk_at "d"
    simp only [fldL_grid O, fldL_a O, fldL_b O, fldL_c O, fldL_east O, fldL_north O]
    walk_at "d"
    simp only [fld_text O_Grid]
    walk_at "d"
    refine ⟨by (try simp only [cat_len]); omega, ?_⟩
    repeat refine ⟨by first | exact lg _ ok.ba | exact lg _ ok.bb | exact lg _ ok.bc | exact lg _ ok.be | exact lg _ ok.bn | ((try simp only [cat_len]); omega), ?_⟩
    exact k
end

/-! ### reading steps over trees -/
local macro_rules | `(tactic| walk_at "d") => `(tactic| try simp -implicitDefEqProofs only [cxK, noxK, wishK, startD, startI, List.map_cons, List.map_nil, List.length_cons, List.length_nil, List.length_singleton, Nat.zero_add, Nat.reduceAdd, Nat.reduceSub, Nat.add_one_sub_one, List.replicate_succ, List.replicate_zero, List.cons_append, List.nil_append, List.append_nil,
  ap_dLenSet, ap_dSortS, ap_dBorS, ap_dSortF, ap_dInN, ap_dCmpG, ap_dPopPair, ap_dDictCp, ap_dPairNO, ap_dThenOwn, ap_dDicO, ap_dBor, ap_dVar, ap_dPeek, ap_dC, ap_dOp, ap_dTest, ap_dChain, ap_dTru, ap_dAndB, ap_dOrB, ap_dNotB, ap_dAnd, ap_dOr, ap_dNot, ap_dNil, ap_dCons, ap_dTup, ap_dLst, ap_dLet, ap_dSized, ap_dUn, ap_dNoPart, ap_dPart, ap_dSl, ap_dFn, ap_dMt, ap_dMt0, ap_dFs, ap_dFmt, ap_dJoin, ap_dNext, ap_dSeq, ap_dDrop, ap_dRet, ap_dIf, ap_dAsg, ap_dSet, ap_dOwn, ap_dAppend, ap_dAug, ap_dFldS, ap_dPar, ap_dPar3, ap_dIt, ap_dItA, ap_dFor, ap_dLc, ap_dYes, ap_dCall, ap_dCall0, ap_dCallKw, ap_dCallKw0, ap_dMeth, ap_dMeth0, ap_dMethKw, ap_dOne, ap_dFmtO, ap_dEqO, ap_dReqO, ap_dMake, ap_dMake0, ap_dMakeKw, ap_dMakeKw0, ap_dRaise, ap_dPair, ap_dCat, ex_obj1, ex_obj2, ex_ins1, ex_ins2, ex_str, ex_own, ex_val, ap_ix0, ap_ix1, ap_ix2, e_lenOk, e_isStr, le_sz0, le_sz1, le_sz2, le_sz3, le_sz4, le_sz5, le_sz6, le_sz7, le_sz8, ap_dIfE, ap_isD, ap_in1, ap_in2, ap_in3, ap_isi, ap_sum, ap_any, ap_dJs0, ap_dJs1, ap_dgName, ap_dgTup, ap_dgCons, ap_dgNil, ap_dTry, ap_dXf, e_tru1, e_tru2, e_tru3, e_tru4, e_tru5, e_tru6, e_tru7, e_fmtD1, e_fmtD2, e_iterD1, e_iterD2, e_iterD3, e_iterD4, e_addD1, e_addD2, e_addD3, e_addD4, e_subD1, e_mulD1, e_mulD2, e_mulD3, e_fdivD1, e_modD1, e_powD1, e_cmpD1, e_cmpD2, e_eqD1, e_eqD2, e_eqD3, e_eqD4, e_eqD5, e_eqD6, e_eqD7, e_eqD8, e_eqD9, e_eqD10, e_eqD11, e_eqD12, e_eqD13, e_eqD14, e_isNonD1, e_negD1, e_ixD1, e_ixD2, e_ixD3, e_ixD4, e_slD1, e_slD2, e_slD3, e_slD4, e_lenD1, e_lenD2, e_lenD3, e_lenD4, e_absD1, e_mmD1, e_intD1, e_intD2, e_intD3, e_strD1, e_strD2, e_tupleD1, e_tupleD2, e_tupleD3, e_listD1, e_listD2, e_listD3, e_splitD1, e_joinD1, e_joinD2, e_str1D1, e_iaddD1, e_iaddD2, e_imulD1, e_ifdivD1, e_enumD1, e_enumD2, e_zipF1, e_zipF2, e_rng11, e_rng21, e_rng31, e_fldD1, e_dixD1, e_dixD2, e_revSD1, e_catD1, ap_dTryK, ap_dSetX, kx_any, kx_val, kx_own, kx_exc, e_xfD, e_nonX, e_rngW, ap_dExtend, e_extD, ap_best, ap_dItR, e_revF1, e_revF2, e_revF3, ap_dTryN, ap_dRaiseU, ap_dSplitN, e_splitN, ap_dSetIx, e_setD, e_zipG, ap_dTupO, e_caseD, e_rngS, e_enumG, e_enumZ, ap_dInO, ap_dPopSet, e_popD, ap_dAppPop, ap_dPairON, ap_dListN, e_listN1, e_listN2, e_listN3, e_listN4, e_isB, ap_dIsX, ap_dgLst, ap_dReprT, ap_dBoolO, ap_dEqG, e_shlD1, e_eqE, ap_dPar3O, ap_bestT, ap_dPar3E, e_kin, e_kix, e_index, ap_dPut2, ap_dDic2, ap_getD2, ap_dItK, ap_dTwoE, ap_dAppA, ap_dTwo, ap_dZipN, ap_dCallV, ap_dIsE, e_zipG3, e_mm3, ap_dPar3EN, ap_dVals0, ap_dVals, ap_dMemD, ap_dMem, ap_dMixL, ap_dMixK, ap_dMsetL, ap_dMsetK, ap_dFrz, e_mixL, e_msetL, e_mulBD, Z.put_put, ap_dInsert0, ap_dMslL, e_mslL, ap_dDictP, e_dictPD, ap_dTry2, ap_dCallW, ap_dMset2, e_minK, ap_dMinK, e_mixK, ap_dMixK, e_msetK, ap_dIsE, ap_dExc, ap_dExcKw, ap_dExcU, e_xfG, ap_dDicF, ap_dAppM, e_mapp, ap_dThenFrz, ap_dInL, ap_dSortM, ap_dMemD0, ap_dMlen, ap_dMpop, e_isBG, ap_dPar3L, ap_dMethKwX, e_partition, ltD, leD, gtD, geD, minD, maxD, wipeD,
  List.set_cons_zero, List.set_cons_succ, List.getElem?_cons_zero, List.getElem?_cons_succ, List.length_set, if_true, if_false, Bool.false_eq_true, reduceIte, id, Bool.not_true, Bool.not_false, true_and, and_true, List.zip_cons_cons, List.zip_nil_right, List.zip_nil_left, reduceCtorEq, Option.some.injEq,
  Nat.reduceLT, Nat.reduceLeDiff, Nat.reduceEqDiff, and_self, ite_self, decide_true, decide_false, eq_self])
local macro_rules | `(tactic| walk_at "ds") => `(tactic| first | rfl | decide | assumption | omega | exact Nat.le_of_ble_eq_true rfl)

section
theorem text_inj {a b : List (List Nat)} (ha : WsOk a) (hb : WsOk b) (h : textOf a = textOf b) : a = b := by
  rw [← words_text ha.ne ha.ok, ← words_text hb.ne hb.ok, h]
end

section
variable {P : Program} {w : World} {K : PySem.W.Frag} {mg : Str → Option Value} {base : Heap} {f : Addr} {fd : FuncData} {CG CB CE CS CQ CU CM CD CC CA CR CN CL CT : Addr}
theorem join_snoc : ∀ {ws : List (List Nat)} (w : List Nat), ws ≠ [] → TL.joinL [32] (ws ++ [w]) = TL.joinL [32] ws ++ 32 :: w
  | [], _, h => absurd rfl h
  | [x], w, _ => rfl
  | x :: y :: r, w, _ => by
    show x ++ ([32] ++ TL.joinL [32] ((y :: r) ++ [w])) = (x ++ ([32] ++ TL.joinL [32] (y :: r))) ++ 32 :: w
    rw [join_snoc w (List.cons_ne_nil y r)]
    simp
theorem cnt_text : ∀ {ws : List (List Nat)}, ws ≠ [] → (∀ w ∈ ws, 32 ∉ w) → PyProof.Rows.cnt 32 (TL.joinL [32] ws) = (ws.length : Int) - 1
  | [], h, _ => absurd rfl h
  | [x], _, h => by
    show PyProof.Rows.cnt 32 x = _
    rw [PyProof.Rows.cnt_none 32 x (h x (by simp))]
    rfl
  | x :: y :: r, _, h => by
    show PyProof.Rows.cnt 32 (x ++ ([32] ++ TL.joinL [32] (y :: r))) = _
    rw [PyProof.Rows.cnt_append, PyProof.Rows.cnt_append, PyProof.Rows.cnt_none 32 x (h x (by simp)), cnt_text (List.cons_ne_nil y r) fun w m => h w (List.mem_cons_of_mem _ m), PyProof.Rows.cnt_cons, PyProof.Rows.cnt_nil]
    simp
    omega
theorem S_list (t : List Nat) : (S t).cps.toList = t := by show t.toArray.toList = _; rw [List.toList_toArray]
theorem count_text {ws : List (List Nat)} (h : WsOk ws) : Txt.count (S (textOf ws)) (Str.ofString " ") = (ws.length : Int) - 1 := by
  rw [show Str.ofString " " = (⟨#[32]⟩ : Str) by decide +kernel, PyProof.Rows.count_cnt, S_list]
  exact cnt_text h.ne fun w m => (h.ok w m).form.1
theorem rfind_last {u v : List Nat} (h : 32 ∉ v) : Txt.rfind (S (u ++ 32 :: v)) (Str.ofString " ") = (u.length : Int) := by
  rw [show Str.ofString " " = (⟨#[32]⟩ : Str) by decide +kernel]
  unfold Txt.rfind
  rw [PySem.StrLaws.last_eq]
  have key := PySem.StrLaws.last_run (S (u ++ 32 :: v)) (⟨#[32]⟩ : Str) (S (u ++ 32 :: v)).length (List.range' 0 ((S (u ++ 32 :: v)).length + 1 - 0)) [] none (fun _ z => nomatch z) (fun _ z => nomatch z) (by first | exact List.pairwise_lt_range' | simpa using List.pairwise_lt_range' (s := 0) (n := (S (u ++ 32 :: v)).length + 1 - 0))
  have at_ : ∀ k, PySem.StrLaws.At (S (u ++ 32 :: v)) (⟨#[32]⟩ : Str) (S (u ++ 32 :: v)).length k ↔ (u ++ 32 :: v)[k]? = some 32 := fun k => by
    have := PySem.StrLaws.subAt_one (S (u ++ 32 :: v)) 32 k
    rw [S_list] at this
    exact this
  have au : (u ++ 32 :: v)[u.length]? = some 32 := by rw [List.getElem?_append_right (Nat.le_refl _), Nat.sub_self]; rfl
  have mem : u.length ∈ ([] : List Nat) ++ List.range' 0 ((S (u ++ 32 :: v)).length + 1 - 0) := by
    rw [List.nil_append, List.mem_range'_1, S_len, List.length_append, List.length_cons]
    omega
  cases hr : (forIn (List.range' 0 ((S (u ++ 32 :: v)).length + 1 - 0)) none (PySem.StrLaws.lastBody (S (u ++ 32 :: v)) (⟨#[32]⟩ : Str) (S (u ++ 32 :: v)).length)).run with
  | none =>
    rw [hr] at key
    exact absurd ((at_ _).mpr au) (key _ mem)
  | some a =>
    rw [hr] at key
    obtain ⟨k1, k2⟩ := key
    have ha := (at_ a).mp k1
    show ((a : Nat) : Int) = _
    rcases Nat.lt_trichotomy a u.length with q | q | q
    · exact absurd ((at_ _).mpr au) (k2 _ mem q)
    · rw [q]
    · rw [List.getElem?_append_right (by omega)] at ha
      obtain ⟨j, hj⟩ : ∃ j, a - u.length = j + 1 := ⟨a - u.length - 1, by omega⟩
      rw [hj, List.getElem?_cons_succ] at ha
      exact absurd (List.mem_of_getElem? ha) h
structure ShowOk (d : D) : Prop where
  ok : okX d
  bk : bulkX d ≤ 8000
  dp : deepX d ≤ 60
structure Six (a b c e n : Int) : Prop where
  t : Turn a b c
  e : e.natAbs < 2 ^ 140
  n : n.natAbs < 2 ^ 140
abbrev sixD (a b c e n : Int) : D := .tup [.int a, .int b, .int c, .int e, .int n]
theorem Turn.b {a b c : Int} (t : Turn a b c) : turnB (.int a) (.int b) (.int c) = true := by
  show (decide (1 ≤ c) && decide (c ≤ 100) && decide (a * a + b * b = c * c)) = true
  rw [decide_eq_true t.c0, decide_eq_true t.c1, decide_eq_true t.py]
  rfl
theorem Bd.int {n : Nat} {i : Int} (h : i.natAbs < 2 ^ n) : BdD n (.int i) := fun j e => by cases e; exact h
theorem use_Lay {a b c e n : Int} {g : D} {z : Z} {R : List Str → List D → Z → Prop} {E : PX} (t : Turn a b c) (k : R layNs [g, .int a, .int b, .int c, .int e, .int n] z) : spLayI CT [g, .int a, .int b, .int c, .int e, .int n] z R E :=
  spLayI_of ⟨g, _, _, _, _, _, rfl, trivial, trivial, trivial, Bd.int (Nat.lt_of_le_of_lt t.ab (by decide)), Bd.int (Nat.lt_of_le_of_lt t.bb (by decide)), Bd.int (Nat.lt_of_le_of_lt (show c.natAbs ≤ 100 by have := t.c0; have := t.c1; omega) (by decide)), .inl ⟨t.b, k⟩⟩
theorem use_eqI {xs ys : List Int} {k : D → Prop} (hx : ∀ i ∈ xs, Bd 200 i) (hy : ∀ i ∈ ys, Bd 200 i) (hk : ∀ b : Bool, (b = true ↔ xs = ys) → k (.bl b)) : eqD id (.tup (xs.map .int)) (.tup (ys.map .int)) k := by
  have tp : ∀ x : List Int, (∀ i ∈ x, Bd 200 i) → okD (.tup (x.map .int)) ∧ noBl (.tup (x.map .int)) ∧ deepD (.tup (x.map .int)) ≤ 64 := fun x ox => by
    refine ⟨?_, ?_, ?_⟩
    · rw [okD]
      exact ok_ints fun n m => log_small (k := 200) (ox n m) (by decide) (by decide)
    · rw [noBl]
      exact noBls_map fun n m => by rw [noBl] <;> simp
    · rw [deepD]
      have := deep_ints x
      omega
  obtain ⟨o1, n1, d1⟩ := tp xs hx
  obtain ⟨o2, n2, d2⟩ := tp ys hy
  refine use_eqD (.inr rfl) n1 n2 o1 o2 d1 d2 fun b hb => hk b ?_
  rw [hb]
  constructor
  · intro h
    injection h with h
    exact (List.map_inj_right (fun a b e => by injection e)).mp h
  · intro h
    rw [h]
theorem Turn.bd {a b c : Int} (t : Turn a b c) : Bd 200 a ∧ Bd 200 b ∧ Bd 200 c :=
  ⟨Nat.lt_of_le_of_lt t.ab (by decide), Nat.lt_of_le_of_lt t.bb (by decide), Nat.lt_of_le_of_lt (show c.natAbs ≤ 100 by have := t.c0; have := t.c1; omega) (by decide)⟩
theorem Bd.o0 : Bd 200 0 := by unfold Bd; decide
theorem Bd.o1 : Bd 200 1 := by unfold Bd; decide
@[irreducible] def spMade (CL CG : Addr) : PSp := fun ds z R _ => ∃ (p : Addr) (c0 : Cell) (zb : Z) (ws : List (List Nat)) (a b c e n : Int), z = zb.put p c0 ∧ ds = [.adr p, .str (S (textOf ws)), sixD a b c e n] ∧ PotC c0 ∧ WsOk ws ∧ Six a b c e n ∧
  ∀ c', PotC c' → R (lyD CL CG ⟨textOf ws, signsAll ws, a, b, c, e, n⟩) (zb.put p c')
theorem spMade_of {CL CG : Addr} {ds : List D} {z : Z} {R : D → Z → Prop} {E : PX} (h_ : ∃ (p : Addr) (c0 : Cell) (zb : Z) (ws : List (List Nat)) (a b c e n : Int), z = zb.put p c0 ∧ ds = [.adr p, .str (S (textOf ws)), sixD a b c e n] ∧ PotC c0 ∧ WsOk ws ∧ Six a b c e n ∧
  ∀ c', PotC c' → R (lyD CL CG ⟨textOf ws, signsAll ws, a, b, c, e, n⟩) (zb.put p c')) : spMade CL CG ds z R E := by unfold spMade; exact h_
theorem spMade_un {CL CG : Addr} {ds : List D} {z : Z} {R : D → Z → Prop} {E : PX} (h_ : spMade CL CG ds z R E) : ∃ (p : Addr) (c0 : Cell) (zb : Z) (ws : List (List Nat)) (a b c e n : Int), z = zb.put p c0 ∧ ds = [.adr p, .str (S (textOf ws)), sixD a b c e n] ∧ PotC c0 ∧ WsOk ws ∧ Six a b c e n ∧
  ∀ c', PotC c' → R (lyD CL CG ⟨textOf ws, signsAll ws, a, b, c, e, n⟩) (zb.put p c') := by unfold spMade at h_; exact h_
theorem kb_Lay_init_0_north_c_grid_b_east_a {K : PySem.W.Frag} {f : Addr} {fd : FuncData} (F : FunD K "__init__" "Lay.__init__" (defArgs s_Lay_init) (defBody s_Lay_init) (defScope s_Lay_init) [(.int 1), (.int 0), (.int 1), (.int 0), (.int 0)] [] f fd) : ∃ g, KwB K fd Lay_init.ps 1 ["north", "c", "grid", "b", "east", "a"] g (fun us ws => match us, ws with | [u0], [w0, w1, w2, w3, w4, w5] => [u0, w2, w5, w3, w1, w4, w0] | _, _ => []) :=
  FunD_kbL F 1 ["north", "c", "grid", "b", "east", "a"] (fun us its ws => match us, its, ws with | [u0], [t0, t1, t2, t3, t4], [w0, w1, w2, w3, w4, w5] => [u0, w2, w5, w3, w1, w4, w0] | _, _, _ => []) (fun us ws => match us, ws with | [u0], [w0, w1, w2, w3, w4, w5] => [u0, w2, w5, w3, w1, w4, w0] | _, _ => []) (List.cons_ne_nil _ _) (fun vs zs us its ws h1 h2 r1 rT r2 => match vs, zs, us, its, ws, h1, h2, r1, rT, r2 with | [v0], [z0, z1, z2, z3, z4, z5], [u0], [t0, t1, t2, t3, t4], [w0, w1, w2, w3, w4, w5], _, _, .cons r0 (.nil), .cons x0 (.cons x1 (.cons x2 (.cons x3 (.cons x4 (.nil))))), .cons q0 (.cons q1 (.cons q2 (.cons q3 (.cons q4 (.cons q5 (.nil)))))) => .cons r0 (.cons q2 (.cons q5 (.cons q3 (.cons q1 (.cons q4 (.cons q0 (.nil))))))))
    (fun T kV doc pm an cdv ct us its ws h1 h2 h3 => match us, its, ws, h1, h2, h3 with | [u0], [t0, t1, t2, t3, t4], [w0, w1, w2, w3, w4, w5], _, _, _ => ⟨_, rfl, by rfl⟩)
theorem kd_Lay_init_0_north_c_grid_b_east_a : KwM 0 (List.length ["north", "c", "grid", "b", "east", "a"]) (fun us ws => match us, ws with | [u0], [w0, w1, w2, w3, w4, w5] => [u0, w2, w5, w3, w1, w4, w0] | _, _ => []) (fun us ws => match us, ws with | [], [w0, w1, w2, w3, w4, w5] => [w2, w5, w3, w1, w4, w0] | _, _ => []) := fun x vs zs h1 h2 => by
  match vs, zs, h1, h2 with
  | [], [z0, z1, z2, z3, z4, z5], _, _ =>
    refine ⟨[z2, z5, z3, z1, z4, z0], rfl, fun K N H ds es r q => ?_⟩
    match ds, es, Reps.length r, Reps.length q with
    | [], [e0, e1, e2, e3, e4, e5], _, _ =>
      simp only [Reps, List.cons.injEq] at r q
      obtain ⟨_, _, ⟨eq0, tq0⟩, q0, q⟩ := q
      subst eq0 tq0
      simp only [List.cons.injEq] at q
      obtain ⟨_, _, ⟨eq1, tq1⟩, q1, q⟩ := q
      subst eq1 tq1
      simp only [List.cons.injEq] at q
      obtain ⟨_, _, ⟨eq2, tq2⟩, q2, q⟩ := q
      subst eq2 tq2
      simp only [List.cons.injEq] at q
      obtain ⟨_, _, ⟨eq3, tq3⟩, q3, q⟩ := q
      subst eq3 tq3
      simp only [List.cons.injEq] at q
      obtain ⟨_, _, ⟨eq4, tq4⟩, q4, q⟩ := q
      subst eq4 tq4
      simp only [List.cons.injEq] at q
      obtain ⟨_, _, ⟨eq5, tq5⟩, q5, q⟩ := q
      subst eq5 tq5
      exact (Reps.cons q2 (Reps.cons q5 (Reps.cons q3 (Reps.cons q1 (Reps.cons q4 (Reps.cons q0 Reps.nil))))))
theorem kb_Lay_init_1_east_north {K : PySem.W.Frag} {f : Addr} {fd : FuncData} (F : FunD K "__init__" "Lay.__init__" (defArgs s_Lay_init) (defBody s_Lay_init) (defScope s_Lay_init) [(.int 1), (.int 0), (.int 1), (.int 0), (.int 0)] [] f fd) : ∃ g, KwB K fd Lay_init.ps 2 ["east", "north"] g (fun us ws => match us, ws with | [u0, u1], [w0, w1] => [u0, u1, (.int 1), (.int 0), (.int 1), w0, w1] | _, _ => []) :=
  FunD_kbL F 2 ["east", "north"] (fun us its ws => match us, its, ws with | [u0, u1], [t0, t1, t2, t3, t4], [w0, w1] => [u0, u1, t0, t1, t2, w0, w1] | _, _, _ => []) (fun us ws => match us, ws with | [u0, u1], [w0, w1] => [u0, u1, (.int 1), (.int 0), (.int 1), w0, w1] | _, _ => []) (List.cons_ne_nil _ _) (fun vs zs us its ws h1 h2 r1 rT r2 => match vs, zs, us, its, ws, h1, h2, r1, rT, r2 with | [v0, v1], [z0, z1], [u0, u1], [t0, t1, t2, t3, t4], [w0, w1], _, _, .cons r0 (.cons r1 (.nil)), .cons x0 (.cons x1 (.cons x2 (.cons x3 (.cons x4 (.nil))))), .cons q0 (.cons q1 (.nil)) => .cons r0 (.cons r1 (.cons x0 (.cons x1 (.cons x2 (.cons q0 (.cons q1 (.nil))))))))
    (fun T kV doc pm an cdv ct us its ws h1 h2 h3 => match us, its, ws, h1, h2, h3 with | [u0, u1], [t0, t1, t2, t3, t4], [w0, w1], _, _, _ => ⟨_, rfl, by rfl⟩)
theorem kd_Lay_init_1_east_north : KwM 1 (List.length ["east", "north"]) (fun us ws => match us, ws with | [u0, u1], [w0, w1] => [u0, u1, (.int 1), (.int 0), (.int 1), w0, w1] | _, _ => []) (fun us ws => match us, ws with | [u0], [w0, w1] => [u0, (.int 1), (.int 0), (.int 1), w0, w1] | _, _ => []) := fun x vs zs h1 h2 => by
  match vs, zs, h1, h2 with
  | [v0], [z0, z1], _, _ =>
    refine ⟨[v0, (.int 1), (.int 0), (.int 1), z0, z1], rfl, fun K N H ds es r q => ?_⟩
    match ds, es, Reps.length r, Reps.length q with
    | [d0], [e0, e1], _, _ =>
      simp only [Reps, List.cons.injEq] at r q
      obtain ⟨_, _, ⟨er0, tr0⟩, r0, r⟩ := r
      subst er0 tr0
      obtain ⟨_, _, ⟨eq0, tq0⟩, q0, q⟩ := q
      subst eq0 tq0
      simp only [List.cons.injEq] at q
      obtain ⟨_, _, ⟨eq1, tq1⟩, q1, q⟩ := q
      subst eq1 tq1
      exact (Reps.cons r0 (Reps.cons (by rw [Rep]) (Reps.cons (by rw [Rep]) (Reps.cons (by rw [Rep]) (Reps.cons q0 (Reps.cons q1 Reps.nil))))))
theorem kb_Lay_init_2_b_c {K : PySem.W.Frag} {f : Addr} {fd : FuncData} (F : FunD K "__init__" "Lay.__init__" (defArgs s_Lay_init) (defBody s_Lay_init) (defScope s_Lay_init) [(.int 1), (.int 0), (.int 1), (.int 0), (.int 0)] [] f fd) : ∃ g, KwB K fd Lay_init.ps 3 ["b", "c"] g (fun us ws => match us, ws with | [u0, u1, u2], [w0, w1] => [u0, u1, u2, w0, w1, (.int 0), (.int 0)] | _, _ => []) :=
  FunD_kbL F 3 ["b", "c"] (fun us its ws => match us, its, ws with | [u0, u1, u2], [t0, t1, t2, t3, t4], [w0, w1] => [u0, u1, u2, w0, w1, t3, t4] | _, _, _ => []) (fun us ws => match us, ws with | [u0, u1, u2], [w0, w1] => [u0, u1, u2, w0, w1, (.int 0), (.int 0)] | _, _ => []) (List.cons_ne_nil _ _) (fun vs zs us its ws h1 h2 r1 rT r2 => match vs, zs, us, its, ws, h1, h2, r1, rT, r2 with | [v0, v1, v2], [z0, z1], [u0, u1, u2], [t0, t1, t2, t3, t4], [w0, w1], _, _, .cons r0 (.cons r1 (.cons r2 (.nil))), .cons x0 (.cons x1 (.cons x2 (.cons x3 (.cons x4 (.nil))))), .cons q0 (.cons q1 (.nil)) => .cons r0 (.cons r1 (.cons r2 (.cons q0 (.cons q1 (.cons x3 (.cons x4 (.nil))))))))
    (fun T kV doc pm an cdv ct us its ws h1 h2 h3 => match us, its, ws, h1, h2, h3 with | [u0, u1, u2], [t0, t1, t2, t3, t4], [w0, w1], _, _, _ => ⟨_, rfl, by rfl⟩)
theorem kd_Lay_init_2_b_c : KwM 2 (List.length ["b", "c"]) (fun us ws => match us, ws with | [u0, u1, u2], [w0, w1] => [u0, u1, u2, w0, w1, (.int 0), (.int 0)] | _, _ => []) (fun us ws => match us, ws with | [u0, u1], [w0, w1] => [u0, u1, w0, w1, (.int 0), (.int 0)] | _, _ => []) := fun x vs zs h1 h2 => by
  match vs, zs, h1, h2 with
  | [v0, v1], [z0, z1], _, _ =>
    refine ⟨[v0, v1, z0, z1, (.int 0), (.int 0)], rfl, fun K N H ds es r q => ?_⟩
    match ds, es, Reps.length r, Reps.length q with
    | [d0, d1], [e0, e1], _, _ =>
      simp only [Reps, List.cons.injEq] at r q
      obtain ⟨_, _, ⟨er0, tr0⟩, r0, r⟩ := r
      subst er0 tr0
      simp only [List.cons.injEq] at r
      obtain ⟨_, _, ⟨er1, tr1⟩, r1, r⟩ := r
      subst er1 tr1
      obtain ⟨_, _, ⟨eq0, tq0⟩, q0, q⟩ := q
      subst eq0 tq0
      simp only [List.cons.injEq] at q
      obtain ⟨_, _, ⟨eq1, tq1⟩, q1, q⟩ := q
      subst eq1 tq1
      exact (Reps.cons r0 (Reps.cons r1 (Reps.cons q0 (Reps.cons q1 (Reps.cons (by rw [Rep]) (Reps.cons (by rw [Rep]) Reps.nil))))))
theorem kb_Lay_init_1_east_a_c_north_b {K : PySem.W.Frag} {f : Addr} {fd : FuncData} (F : FunD K "__init__" "Lay.__init__" (defArgs s_Lay_init) (defBody s_Lay_init) (defScope s_Lay_init) [(.int 1), (.int 0), (.int 1), (.int 0), (.int 0)] [] f fd) : ∃ g, KwB K fd Lay_init.ps 2 ["east", "a", "c", "north", "b"] g (fun us ws => match us, ws with | [u0, u1], [w0, w1, w2, w3, w4] => [u0, u1, w1, w4, w2, w0, w3] | _, _ => []) :=
  FunD_kbL F 2 ["east", "a", "c", "north", "b"] (fun us its ws => match us, its, ws with | [u0, u1], [t0, t1, t2, t3, t4], [w0, w1, w2, w3, w4] => [u0, u1, w1, w4, w2, w0, w3] | _, _, _ => []) (fun us ws => match us, ws with | [u0, u1], [w0, w1, w2, w3, w4] => [u0, u1, w1, w4, w2, w0, w3] | _, _ => []) (List.cons_ne_nil _ _) (fun vs zs us its ws h1 h2 r1 rT r2 => match vs, zs, us, its, ws, h1, h2, r1, rT, r2 with | [v0, v1], [z0, z1, z2, z3, z4], [u0, u1], [t0, t1, t2, t3, t4], [w0, w1, w2, w3, w4], _, _, .cons r0 (.cons r1 (.nil)), .cons x0 (.cons x1 (.cons x2 (.cons x3 (.cons x4 (.nil))))), .cons q0 (.cons q1 (.cons q2 (.cons q3 (.cons q4 (.nil))))) => .cons r0 (.cons r1 (.cons q1 (.cons q4 (.cons q2 (.cons q0 (.cons q3 (.nil))))))))
    (fun T kV doc pm an cdv ct us its ws h1 h2 h3 => match us, its, ws, h1, h2, h3 with | [u0, u1], [t0, t1, t2, t3, t4], [w0, w1, w2, w3, w4], _, _, _ => ⟨_, rfl, by rfl⟩)
theorem kd_Lay_init_1_east_a_c_north_b : KwM 1 (List.length ["east", "a", "c", "north", "b"]) (fun us ws => match us, ws with | [u0, u1], [w0, w1, w2, w3, w4] => [u0, u1, w1, w4, w2, w0, w3] | _, _ => []) (fun us ws => match us, ws with | [u0], [w0, w1, w2, w3, w4] => [u0, w1, w4, w2, w0, w3] | _, _ => []) := fun x vs zs h1 h2 => by
  match vs, zs, h1, h2 with
  | [v0], [z0, z1, z2, z3, z4], _, _ =>
    refine ⟨[v0, z1, z4, z2, z0, z3], rfl, fun K N H ds es r q => ?_⟩
    match ds, es, Reps.length r, Reps.length q with
    | [d0], [e0, e1, e2, e3, e4], _, _ =>
      simp only [Reps, List.cons.injEq] at r q
      obtain ⟨_, _, ⟨er0, tr0⟩, r0, r⟩ := r
      subst er0 tr0
      obtain ⟨_, _, ⟨eq0, tq0⟩, q0, q⟩ := q
      subst eq0 tq0
      simp only [List.cons.injEq] at q
      obtain ⟨_, _, ⟨eq1, tq1⟩, q1, q⟩ := q
      subst eq1 tq1
      simp only [List.cons.injEq] at q
      obtain ⟨_, _, ⟨eq2, tq2⟩, q2, q⟩ := q
      subst eq2 tq2
      simp only [List.cons.injEq] at q
      obtain ⟨_, _, ⟨eq3, tq3⟩, q3, q⟩ := q
      subst eq3 tq3
      simp only [List.cons.injEq] at q
      obtain ⟨_, _, ⟨eq4, tq4⟩, q4, q⟩ := q
      subst eq4 tq4
      exact (Reps.cons r0 (Reps.cons q1 (Reps.cons q4 (Reps.cons q2 (Reps.cons q0 (Reps.cons q3 Reps.nil))))))
abbrev s_made : Stmt := (top 26)
abbrev made.N : List Str := ["_law_draws", "_law_text", "_law_six", "_law_i", "_law_j", "_law_k", "_law_e", "_law_n", "_law_way"]
abbrev made.ps : List Str := ["_law_draws", "_law_text", "_law_six"]
theorem sc_made : FnScope made.N made.ps (defScope s_made) := ⟨rfl, rfl, rfl, by decide +kernel, rfl, by decide +kernel, by decide +kernel⟩
theorem ok_made (F : Fun K "_law_made" "_law_made" s_made f fd) (T : T52 mg) (GF : GridFn P w K mg base CG CB) (C_next : Callee P w K mg base CX0 1 "_law_next" s_next next.ps (lift K spNext))
    (C_Lay : Maker P w K mg base (L2.CX P w) 3 "Lay" CL (dD s_Lay_init "__init__" "Lay.__init__" [.int 1, .int 0, .int 1, .int 0, .int 0] K) Lay_init.ps (liftI K CL (spLayI CT))) : FnG P w K mg base CX0 6 f fd made.ps (lift K (spMade CL CG)) := by
  obtain ⟨O_Grid, G_Grid, N_Grid, R_Grid, W_Grid, I_Grid, C_Grid, C_Grid_eq, C_Grid_len, C_Grid_str, C_Grid_repr, C_Grid_alphabet, C_Grid_cut, C_Grid_side⟩ := GF
  refine dbody F sc_made (fun ds z R RX h => ?_) fun cdv A outer s H E hr hg => ⟨_, (dss_cons (ds_asg (de_var 2) (dg_tup (n := 5) rfl (dgs_cons (dg_name (i := 3) sc_made.nd rfl (Or.inl rfl)) (dgs_cons (dg_name (i := 4) sc_made.nd rfl (Or.inl rfl)) (dgs_cons (dg_name (i := 5) sc_made.nd rfl (Or.inl rfl)) (dgs_cons (dg_name (i := 6) sc_made.nd rfl (Or.inl rfl)) (dgs_cons (dg_name (i := 7) sc_made.nd rfl (Or.inl rfl)) dgs_nil)))))))
      (dss_cons (ds_set (i := 8) sc_made.nd rfl (Or.inl rfl) (C_next.d0 rfl hr hg (atAll pass0) (das_cons (de_var 0) (das_cons de_int das_nil))))
      (dss_cons (ds_if (dt_cmp (od_eq hr.units) (dp_var 8) (dp_of de_int) (nomark _)) (dss_one (ds_ret (C_Lay.d0 rfl hr hg (atAll passL) (das_cons (C_Grid.d0 rfl hr hg (atAll passL) (das_cons (de_var 1) das_nil)) (das_cons (de_var 3) (das_cons (de_var 4) (das_cons (de_var 5) (das_cons (de_var 6) (das_cons (de_var 7) das_nil))))))))) dss_nil)
      (dss_cons (ds_if (dt_cmp (od_eq hr.units) (dp_var 8) (dp_of de_int) (nomark _)) (dss_one (ds_ret (C_Lay.dkw0EG kd_Lay_init_0_north_c_grid_b_east_a (fun _ _ q => kb_Lay_init_0_north_c_grid_b_east_a q) rfl hr hg (atAll passL) (dk_cons (de_var 7) (dk_cons (de_var 5) (dk_cons (C_Grid.d0 rfl hr hg (atAll passL) (das_cons (de_var 1) das_nil)) (dk_cons (de_var 4) (dk_cons (de_var 6) (dk_cons (de_var 3) dk_nil))))))))) dss_nil)
      (dss_cons (ds_if (DWt.pt (dw_and (dt_cmp (od_eq hr.units) (dp_var 8) (dp_of de_int) (nomark _)) (dw_and1 (dt_cmp (od_eq hr.units) (dp_of (de_tup (das_cons (de_var 3) (das_cons (de_var 4) (das_cons (de_var 5) das_nil))))) (dp_of (de_tup (das_cons de_int (das_cons de_int (das_cons de_int das_nil))))) (nomark _))))) (dss_one (ds_ret (C_Lay.dkwEG kd_Lay_init_1_east_north (fun _ _ q => kb_Lay_init_1_east_north q) rfl hr hg (atAll passL) (das_cons (C_Grid.d0 rfl hr hg (atAll passL) (das_cons (de_var 1) das_nil)) das_nil) (dk_cons (de_var 6) (dk_cons (de_var 7) dk_nil))))) dss_nil)
      (dss_cons (ds_if (DWt.pt (dw_and (dt_cmp (od_eq hr.units) (dp_var 8) (dp_of de_int) (nomark _)) (dw_and1 (dt_cmp (od_eq hr.units) (dp_of (de_tup (das_cons (de_var 6) (das_cons (de_var 7) das_nil)))) (dp_of (de_tup (das_cons de_int (das_cons de_int das_nil)))) (nomark _))))) (dss_one (ds_ret (C_Lay.dkwEG kd_Lay_init_2_b_c (fun _ _ q => kb_Lay_init_2_b_c q) rfl hr hg (atAll passL) (das_cons (C_Grid.d0 rfl hr hg (atAll passL) (das_cons (de_var 1) das_nil)) (das_cons (de_var 3) das_nil)) (dk_cons (de_var 4) (dk_cons (de_var 5) dk_nil))))) dss_nil)
      (dss_one (ds_ret (C_Lay.dkwEG kd_Lay_init_1_east_a_c_north_b (fun _ _ q => kb_Lay_init_1_east_a_c_north_b q) rfl hr hg (atAll passL) (das_cons (C_Grid.d0 rfl hr hg (atAll passL) (das_cons (de_var 1) das_nil)) das_nil) (dk_cons (de_var 6) (dk_cons (de_var 3) (dk_cons (de_var 5) (dk_cons (de_var 7) (dk_cons (de_var 4) dk_nil)))))))))))))), fun ds z R RX h => ?_⟩
  · obtain ⟨p, c0, zb, ws, a, b, c, e, n, rfl, rfl, _⟩ := spMade_un h
    rfl
  · obtain ⟨p, c0, zb, ws, a, b, c, e, n, rfl, rfl, hc0, hw, six, k⟩ := spMade_un h
    have g := hw.grid
    obtain ⟨ba, bb, bc⟩ := six.t.bd
    have be : Bd 200 e := Nat.lt_of_lt_of_le six.e (by decide)
    have bn : Bd 200 n := Nat.lt_of_lt_of_le six.n (by decide)
    walk_at "d"
    refine use_next hc0 (by decide) (by decide) fun d c1 hd0 hd1 hc1 => ?_
    have mk : spGrid K CB [.str (S (textOf ws))] (zb.put p c1) (fun ns es z2 => spLayI CT [.ins CG ns es, .int a, .int b, .int c, .int e, .int n] z2 (fun ns es z2 => R (.ins CL ns es) z2) noP) noP := use_Grid g (use_Lay six.t (k c1 hc1))
    walk_at "d"
    refine iteD (fun _ => mk) (fun _ => ?_)
    refine iteD (fun _ => mk) (fun _ => ?_)
    have last : (if decide (d = 3) = true then
          eqD id (.tup [.int e, .int n]) (.tup [.int 0, .int 0]) fun d => match d with
            | .bl b_6 => if b_6 = true then spGrid K CB [.str (S (textOf ws))] (zb.put p c1) (fun ns es z2 => spLayI CT [.ins CG ns es, .int a, .int b, .int c, .int 0, .int 0] z2 (fun ns es z2 => R (.ins CL ns es) z2) noP) noP
                else spGrid K CB [.str (S (textOf ws))] (zb.put p c1) (fun ns es z2 => spLayI CT [.ins CG ns es, .int a, .int b, .int c, .int e, .int n] z2 (fun ns es z2 => R (.ins CL ns es) z2) noP) noP
            | _ => False
        else spGrid K CB [.str (S (textOf ws))] (zb.put p c1) (fun ns es z2 => spLayI CT [.ins CG ns es, .int a, .int b, .int c, .int e, .int n] z2 (fun ns es z2 => R (.ins CL ns es) z2) noP) noP) := by
      refine iteD (fun _ => ?_) (fun _ => mk)
      refine use_eqI (xs := [e, n]) (ys := [0, 0]) (by simp [be, bn]) (by simp [Bd.o0]) fun t ht => ?_
      cases t with
      | true =>
        have h := ht.mp rfl
        simp only [List.cons.injEq, and_true] at h
        obtain ⟨rfl, rfl⟩ := h
        exact mk
      | false => exact mk
    refine iteD (fun _ => ?_) (fun _ => last)
    refine use_eqI (xs := [a, b, c]) (ys := [1, 0, 1]) (by simp [ba, bb, bc]) (by simp [Bd.o0, Bd.o1]) fun t ht => ?_
    cases t with
    | true =>
      have h := ht.mp rfl
      simp only [List.cons.injEq, and_true] at h
      obtain ⟨rfl, rfl, rfl⟩ := h
      exact mk
    | false => exact last
end

/-! ### reading steps over trees -/

section
variable {P : Program} {w : World} {K : PySem.W.Frag} {mg : Str → Option Value} {base : Heap} {f : Addr} {fd : FuncData} {CG CB CE CS CQ CU CM CD CC CA CR CN CL CT : Addr}
theorem cutS_nat (t : List Nat) (i j : Nat) : cutS (S t) (some (i : Int)) (some (j : Int)) = S ((t.drop i).take (j - i)) := by
  unfold cutS
  rw [HT.sIx_nat, HT.sIx_nat, S_len]
  show S ((t.drop (min i t.length)).take (min j t.length - min i t.length)) = _
  congr 1
  rcases Nat.lt_or_ge t.length i with h | h
  · rw [Nat.min_eq_right (show t.length ≤ i by omega), List.drop_eq_nil_of_le (Nat.le_refl _), List.drop_eq_nil_of_le (show t.length ≤ i by omega)]
    simp
  · rw [Nat.min_eq_left h]
    rcases Nat.lt_or_ge t.length j with h2 | h2
    · rw [Nat.min_eq_right (by omega), List.take_of_length_le (by rw [List.length_drop]; exact Nat.le_refl _), List.take_of_length_le (by rw [List.length_drop]; omega)]
    · rw [Nat.min_eq_left h2]
theorem cutS_to (t : List Nat) (i : Nat) : cutS (S t) none (some (i : Int)) = S (t.take i) := by
  rw [show t.take i = (t.drop 0).take (i - 0) by rw [List.drop_zero, Nat.sub_zero], ← cutS_nat]
  unfold cutS
  rw [HT.sIx_none, HT.sIx_nat, HT.sIx_nat, Nat.zero_min]
theorem wok_n3 : Wok [78, 51] := ⟨figs.take 3, by decide +kernel⟩
/-- a text of one word more, or one fewer -/
theorem third_text {ws : List (List Nat)} (h : WsOk ws) : ∃ w3, WsOk w3 ∧ w3 ≠ ws ∧
    atI [D.str (S (textOf ws) ++ Str.ofString " N3"), D.str (cutS (S (textOf ws)) none (some (Txt.rfind (S (textOf ws)) (Str.ofString " "))))] (if decide (Txt.count (S (textOf ws)) (Str.ofString " ") = 4) = true then 1 else 0) = some (.str (S (textOf w3))) := by
  rw [count_text h]
  by_cases h5 : ws.length = 5
  · rw [if_pos (decide_eq_true (by omega))]
    have hne : ws ≠ [] := h.ne
    have e : ws.dropLast ++ [ws.getLast hne] = ws := List.dropLast_concat_getLast hne
    have hd : ws.dropLast ≠ [] := fun q => by have := congrArg List.length q; rw [List.length_dropLast] at this; simp at this; omega
    have hl := (h.ok _ (List.getLast_mem hne)).form.1
    refine ⟨ws.dropLast, ⟨hd, by rw [List.length_dropLast]; omega, fun x m => h.ok x (List.dropLast_subset _ m)⟩, fun q => by have := congrArg List.length q; rw [List.length_dropLast] at this; omega, ?_⟩
    have et : textOf ws = textOf ws.dropLast ++ 32 :: ws.getLast hne := by
      conv => lhs; rw [← e]
      exact join_snoc _ hd
    have ec : cutS (S (textOf ws)) none (some (Txt.rfind (S (textOf ws)) (Str.ofString " "))) = S (textOf ws.dropLast) := by
      rw [et, rfind_last hl, cutS_to, List.take_left]
    rw [ec]
    exact atI_nat (j := 1) rfl
  · rw [if_neg (by rw [decide_eq_true_iff]; omega)]
    have hl := h.le
    refine ⟨ws ++ [[78, 51]], ⟨by simp, by rw [List.length_append]; show ws.length + 1 ≤ 5; omega, fun x m => ?_⟩, fun q => by have := congrArg List.length q; rw [List.length_append] at this; simp at this, ?_⟩
    · rcases List.mem_append.mp m with m | m
      · exact h.ok x m
      · rw [List.mem_singleton.mp m]; exact wok_n3
    · have et : textOf (ws ++ [[78, 51]]) = textOf ws ++ [32, 78, 51] := join_snoc _ h.ne
      rw [et, ← S_cat, show S [32, 78, 51] = Str.ofString " N3" by decide +kernel]
      exact atI_nat (j := 0) rfl
@[irreducible] def spOthers (CL CG : Addr) : PSp := fun ds z R _ => ∃ (ws : List (List Nat)) (a b c e n : Int), ds = [.str (S (textOf ws)), sixD a b c e n] ∧ WsOk ws ∧ Six a b c e n ∧
  ∀ qs : List LayX, qs ≠ [] → qs.length ≤ 10 → (∀ q ∈ qs, LayX.Ok q ∧ ¬ lyEq ⟨textOf ws, signsAll ws, a, b, c, e, n⟩ q) → R (.lst (qs.map (lyD CL CG))) z
theorem spOthers_of {CL CG : Addr} {ds : List D} {z : Z} {R : D → Z → Prop} {E : PX} (h_ : ∃ (ws : List (List Nat)) (a b c e n : Int), ds = [.str (S (textOf ws)), sixD a b c e n] ∧ WsOk ws ∧ Six a b c e n ∧
  ∀ qs : List LayX, qs ≠ [] → qs.length ≤ 10 → (∀ q ∈ qs, LayX.Ok q ∧ ¬ lyEq ⟨textOf ws, signsAll ws, a, b, c, e, n⟩ q) → R (.lst (qs.map (lyD CL CG))) z) : spOthers CL CG ds z R E := by unfold spOthers; exact h_
theorem spOthers_un {CL CG : Addr} {ds : List D} {z : Z} {R : D → Z → Prop} {E : PX} (h_ : spOthers CL CG ds z R E) : ∃ (ws : List (List Nat)) (a b c e n : Int), ds = [.str (S (textOf ws)), sixD a b c e n] ∧ WsOk ws ∧ Six a b c e n ∧
  ∀ qs : List LayX, qs ≠ [] → qs.length ≤ 10 → (∀ q ∈ qs, LayX.Ok q ∧ ¬ lyEq ⟨textOf ws, signsAll ws, a, b, c, e, n⟩ q) → R (.lst (qs.map (lyD CL CG))) z := by unfold spOthers at h_; exact h_
abbrev s_others : Stmt := (top 27)
abbrev others.N : List Str := ["_law_text", "_law_six", "_law_i", "_law_j", "_law_k", "_law_e", "_law_n", "_law_found"]
abbrev others.ps : List Str := ["_law_text", "_law_six"]
theorem sc_others : FnScope others.N others.ps (defScope s_others) := ⟨rfl, rfl, rfl, by decide +kernel, rfl, by decide +kernel, by decide +kernel⟩
theorem ok_others (F : Fun K "_law_others" "_law_others" s_others f fd) (T : T52 mg) (GF : GridFn P w K mg base CG CB)
    (C_Lay : Maker P w K mg base (L2.CX P w) 3 "Lay" CL (dD s_Lay_init "__init__" "Lay.__init__" [.int 1, .int 0, .int 1, .int 0, .int 0] K) Lay_init.ps (liftI K CL (spLayI CT))) : FnG P w K mg base CX0 6 f fd others.ps (lift K (spOthers CL CG)) := by
  obtain ⟨O_Grid, G_Grid, N_Grid, R_Grid, W_Grid, I_Grid, C_Grid, C_Grid_eq, C_Grid_len, C_Grid_str, C_Grid_repr, C_Grid_alphabet, C_Grid_cut, C_Grid_side⟩ := GF
  refine dbody F sc_others (fun ds z R RX h => ?_) fun cdv A outer s H E hr hg => ⟨_, (dss_cons (ds_asg (de_var 1) (dg_tup (n := 5) rfl (dgs_cons (dg_name (i := 2) sc_others.nd rfl (Or.inl rfl)) (dgs_cons (dg_name (i := 3) sc_others.nd rfl (Or.inl rfl)) (dgs_cons (dg_name (i := 4) sc_others.nd rfl (Or.inl rfl)) (dgs_cons (dg_name (i := 5) sc_others.nd rfl (Or.inl rfl)) (dgs_cons (dg_name (i := 6) sc_others.nd rfl (Or.inl rfl)) dgs_nil)))))))
      (dss_cons (ds_own (i := 7) sc_others.nd rfl (Or.inl rfl) (dn_lst (das_cons (C_Lay.d0 rfl hr hg (atAll passL) (das_cons (C_Grid.d0 rfl hr hg (atAll passL) (das_cons (de_var 0) das_nil)) (das_cons (de_var 2) (das_cons (de_var 3) (das_cons (de_var 4) (das_cons (de_op od_add (dp_var 5) (dp_of de_int)) (das_cons (de_var 6) das_nil))))))) (das_cons (C_Lay.d0 rfl hr hg (atAll passL) (das_cons (C_Grid.d0 rfl hr hg (atAll passL) (das_cons (de_var 0) das_nil)) (das_cons (de_var 2) (das_cons (de_var 3) (das_cons (de_var 4) (das_cons (de_var 5) (das_cons (de_op od_sub (dp_var 6) (dp_of de_int)) das_nil))))))) das_nil))))
      (dss_cons (ds_append (i := 7) rfl (C_Lay.d0 rfl hr hg (atAll passL) (das_cons (C_Grid.d0 rfl hr hg (atAll passL) (das_cons (de_ix od_ix (dp_of (de_new (dn_lst (das_cons (de_op od_add (dp_var 0) (dp_of de_str)) (das_cons (de_slice sd_sl (dp_var 0) do_none (do_some (de_mt PySem.F.slot_str_rfind PySem.F.type_str_rfind md_rfind (dp_var 0) (da_cons (dp_of de_str) da_nil)))) das_nil))))) (dp_of (de_ty cd_int (by rfl) T.b_int (by decide +kernel) (da_cons (dp_of (de_cmp (od_eq hr.units) (dp_of (de_mt PySem.F.slot_str_count PySem.F.type_str_count md_count (dp_var 0) (da_cons (dp_of de_str) da_nil))) (dp_of de_int) (nomark _))) da_nil))) (fun _ _ => rfl)) das_nil)) (das_cons (de_var 2) (das_cons (de_var 3) (das_cons (de_var 4) (das_cons (de_var 5) (das_cons (de_var 6) das_nil))))))))
      (dss_cons (ds_if (dt_cmp (od_ne hr.units) (dp_var 2) (dp_of de_int) (nomark _)) (dss_one (ds_append (i := 7) rfl (C_Lay.d0 rfl hr hg (atAll passL) (das_cons (C_Grid.d0 rfl hr hg (atAll passL) (das_cons (de_var 0) das_nil)) (das_cons (de_op od_sub (dp_of de_int) (dp_var 2)) (das_cons (de_var 3) (das_cons (de_var 4) (das_cons (de_var 5) (das_cons (de_var 6) das_nil))))))))) dss_nil)
      (dss_cons (ds_if (dt_cmp (od_ne hr.units) (dp_var 3) (dp_of de_int) (nomark _)) (dss_one (ds_append (i := 7) rfl (C_Lay.d0 rfl hr hg (atAll passL) (das_cons (C_Grid.d0 rfl hr hg (atAll passL) (das_cons (de_var 0) das_nil)) (das_cons (de_var 2) (das_cons (de_op od_sub (dp_of de_int) (dp_var 3)) (das_cons (de_var 4) (das_cons (de_var 5) (das_cons (de_var 6) das_nil))))))))) dss_nil)
      (dss_cons (ds_if (dt_cmp od_le (dp_of (de_op od_mul (dp_of de_int) (dp_var 4))) (dp_of de_int) (nomark _)) (dss_one (ds_append (i := 7) rfl (C_Lay.d0 rfl hr hg (atAll passL) (das_cons (C_Grid.d0 rfl hr hg (atAll passL) (das_cons (de_var 0) das_nil)) (das_cons (de_op od_mul (dp_of de_int) (dp_var 2)) (das_cons (de_op od_mul (dp_of de_int) (dp_var 3)) (das_cons (de_op od_mul (dp_of de_int) (dp_var 4)) (das_cons (de_var 5) (das_cons (de_var 6) das_nil))))))))) dss_nil)
      (dss_one (ds_ret (de_var 7))))))))), fun ds z R RX h => ?_⟩
  · obtain ⟨ws, a, b, c, e, n, rfl, _⟩ := spOthers_un h
    rfl
  · obtain ⟨ws, a, b, c, e, n, rfl, hw, six, k⟩ := spOthers_un h
    have g := hw.grid
    obtain ⟨ba, bb, bc⟩ := six.t.bd
    obtain ⟨ta, tb⟩ : a.natAbs ≤ 100 ∧ b.natAbs ≤ 100 := ⟨six.t.ab, six.t.bb⟩
    have tc0 := six.t.c0
    have tc1 := six.t.c1
    have py := six.t.py
    have he := six.e
    have hn := six.n
    have bd1 : ∀ i : Int, i.natAbs ≤ 2 ^ 140 + 1 → Bd 200 i := fun i h => Nat.lt_of_le_of_lt h (by decide)
    have be := bd1 e (by omega)
    have bn := bd1 n (by omega)
    have lenT : ∀ {w : List (List Nat)}, WsOk w → (textOf w).length ≤ 100000 := fun h => h.grid.len
    obtain ⟨w3, hw3, ne3, at3⟩ := third_text hw
    have g3 := hw3.grid
    have neT : textOf w3 ≠ textOf ws := fun q => ne3 (text_inj hw3 hw q)
    let Q : LayX := ⟨textOf ws, signsAll ws, a, b, c, e, n⟩
    let Good : LayX → Prop := fun q => LayX.Ok q ∧ ¬ lyEq Q q
    have bd2 : ∀ i : Int, i.natAbs ≤ 1000 → Bd 200 i := fun i h => Nat.lt_of_le_of_lt h (by decide)
    have g1 : Good ⟨textOf ws, signsAll ws, a, b, c, e + 1, n⟩ := ⟨⟨lenT hw, ba, bb, bc, bd1 (e + 1) (by omega), bn⟩, fun ⟨_, _, _, _, h, _⟩ => by have h : e = e + 1 := h; omega⟩
    have g2 : Good ⟨textOf ws, signsAll ws, a, b, c, e, n - 1⟩ := ⟨⟨lenT hw, ba, bb, bc, be, bd1 (n - 1) (by omega)⟩, fun ⟨_, _, _, _, _, h⟩ => by have h : n = n - 1 := h; omega⟩
    have g3' : Good ⟨textOf w3, signsAll w3, a, b, c, e, n⟩ := ⟨⟨lenT hw3, ba, bb, bc, be, bn⟩, fun ⟨h, _⟩ => neT h.symm⟩
    have g4 : a ≠ 0 → Good ⟨textOf ws, signsAll ws, 0 - a, b, c, e, n⟩ := fun h0 => ⟨⟨lenT hw, bd2 (0 - a) (by omega), bb, bc, be, bn⟩, fun ⟨_, h, _⟩ => by have h : a = 0 - a := h; omega⟩
    have g5 : b ≠ 0 → Good ⟨textOf ws, signsAll ws, a, 0 - b, c, e, n⟩ := fun h0 => ⟨⟨lenT hw, ba, bd2 (0 - b) (by omega), bc, be, bn⟩, fun ⟨_, _, h, _⟩ => by have h : b = 0 - b := h; omega⟩
    have g6 : Good ⟨textOf ws, signsAll ws, 2 * a, 2 * b, 2 * c, e, n⟩ := ⟨⟨lenT hw, bd2 (2 * a) (by omega), bd2 (2 * b) (by omega), bd2 (2 * c) (by omega), be, bn⟩, fun ⟨_, _, _, h, _⟩ => by have h : c = 2 * c := h; omega⟩
    have t4 : Turn (0 - a) b c := ⟨by rw [show (0 - a) * (0 - a) = a * a by rw [Int.zero_sub, Int.neg_mul_neg]]; exact py, tc0, tc1, by omega, tb⟩
    have t5 : Turn a (0 - b) c := ⟨by rw [show (0 - b) * (0 - b) = b * b by rw [Int.zero_sub, Int.neg_mul_neg]]; exact py, tc0, tc1, ta, by omega⟩
    have ab : 2 * c ≤ 100 → a.natAbs ≤ 50 ∧ b.natAbs ≤ 50 := fun h => by
      have sq : ∀ x y z : Int, 0 ≤ y * y → x * x + y * y = z * z → 0 ≤ z → z ≤ 50 → x.natAbs ≤ 50 := fun x y z hy hp hz0 hz => by
        rcases Nat.lt_or_ge 50 x.natAbs with q | q
        · have h1 : 51 * 51 ≤ x.natAbs * x.natAbs := Nat.mul_le_mul q q
          have h2 : ((x.natAbs * x.natAbs : Nat) : Int) = x * x := by rw [Int.natAbs_mul_self]
          have h3 : z * z ≤ 50 * 50 := Int.mul_le_mul hz hz hz0 (by decide)
          omega
        · exact q
      exact ⟨sq a b c (by rw [← Int.natAbs_mul_self]; omega) py (by omega) (by omega), sq b a c (by rw [← Int.natAbs_mul_self]; omega) (by omega) (by omega) (by omega)⟩
    have t6 : 2 * c ≤ 100 → Turn (2 * a) (2 * b) (2 * c) := fun h => ⟨by
      have e4 : ∀ x : Int, (2 * x) * (2 * x) = 4 * (x * x) := fun x => by rw [Int.mul_assoc, Int.mul_left_comm x 2 x, ← Int.mul_assoc]; rfl
      rw [e4, e4, e4]
      omega, by omega, h, by have := (ab h).1; omega, by have := (ab h).2; omega⟩
    have cm : ∀ x : Int, x.natAbs ≤ 100 → CMulW 2 x := fun x h => wide_mul (a := 10) (b := 10) (by decide) (Nat.lt_of_le_of_lt h (by decide)) (by decide) (by decide) (by decide)
    have tx := hw.text
    have l3 : (Str.ofString " N3").length = 3 := by decide +kernel
    have lS : (S (textOf ws)).length ≤ 100000 := by rw [S_len]; exact lenT hw
    have hz : 200000 ≤ sizeLine := by decide
    walk_at "d"
    refine use_Grid g (use_Lay six.t ?_)
    refine use_Grid g (use_Lay six.t ?_)
    refine ⟨by omega, by omega, _, at3, use_Grid g3 (use_Lay six.t ⟨by omega, ?_⟩)⟩
    have fin : ∀ L : List LayX, L ≠ [] → L.length ≤ 6 → (∀ q ∈ L, Good q) → CMulW 2 c ∧ ((2 * c ≤ 100 → CMulW 2 a ∧ CMulW 2 b ∧ CMulW 2 c ∧ Turn (2 * a) (2 * b) (2 * c) ∧ R (.lst ((L ++ ([⟨textOf ws, signsAll ws, 2 * a, 2 * b, 2 * c, e, n⟩] : List LayX)).map (lyD CL CG))) z) ∧ R (.lst (L.map (lyD CL CG))) z) := fun L h1 h2 h3 =>
      ⟨cm c (by omega), fun h => ⟨cm a ta, cm b tb, cm c (by omega), t6 h, k _ (by simp) (by simp; omega) fun q m => by
        rcases List.mem_append.mp m with m | m
        · exact h3 q m
        · rw [List.mem_singleton.mp m]; exact g6⟩, k L h1 (by omega) h3⟩
    by_cases ha : a = 0
    · rw [decide_eq_true ha, if_neg (by decide)]
      by_cases hb : b = 0
      · rw [decide_eq_true hb, if_neg (by decide)]
        obtain ⟨f1, f2, f3⟩ := fin [⟨textOf ws, signsAll ws, a, b, c, e + 1, n⟩, ⟨textOf ws, signsAll ws, a, b, c, e, n - 1⟩, ⟨textOf w3, signsAll w3, a, b, c, e, n⟩] (by simp) (by simp) (List.forall_mem_cons.mpr ⟨g1, List.forall_mem_cons.mpr ⟨g2, List.forall_mem_cons.mpr ⟨g3', fun _ h => (by cases h)⟩⟩⟩)
        refine ⟨f1, ?_⟩
        refine iteD (fun hc => ?_) (fun _ => f3)
        obtain ⟨m1, m2, m3, t, r⟩ := f2 hc
        exact use_Grid g ⟨m1, m2, m3, use_Lay t ⟨by omega, r⟩⟩
      · rw [decide_eq_false hb, if_pos (by decide)]
        refine use_Grid g (use_Lay t5 ⟨by omega, ?_⟩)
        obtain ⟨f1, f2, f3⟩ := fin [⟨textOf ws, signsAll ws, a, b, c, e + 1, n⟩, ⟨textOf ws, signsAll ws, a, b, c, e, n - 1⟩, ⟨textOf w3, signsAll w3, a, b, c, e, n⟩, ⟨textOf ws, signsAll ws, a, 0 - b, c, e, n⟩] (by simp) (by simp) (List.forall_mem_cons.mpr ⟨g1, List.forall_mem_cons.mpr ⟨g2, List.forall_mem_cons.mpr ⟨g3', List.forall_mem_cons.mpr ⟨g5 hb, fun _ h => (by cases h)⟩⟩⟩⟩)
        refine ⟨f1, ?_⟩
        refine iteD (fun hc => ?_) (fun _ => f3)
        obtain ⟨m1, m2, m3, t, r⟩ := f2 hc
        exact use_Grid g ⟨m1, m2, m3, use_Lay t ⟨by omega, r⟩⟩
    · rw [decide_eq_false ha, if_pos (by decide)]
      refine use_Grid g (use_Lay t4 ⟨by omega, ?_⟩)
      by_cases hb : b = 0
      · rw [decide_eq_true hb, if_neg (by decide)]
        obtain ⟨f1, f2, f3⟩ := fin [⟨textOf ws, signsAll ws, a, b, c, e + 1, n⟩, ⟨textOf ws, signsAll ws, a, b, c, e, n - 1⟩, ⟨textOf w3, signsAll w3, a, b, c, e, n⟩, ⟨textOf ws, signsAll ws, 0 - a, b, c, e, n⟩] (by simp) (by simp) (List.forall_mem_cons.mpr ⟨g1, List.forall_mem_cons.mpr ⟨g2, List.forall_mem_cons.mpr ⟨g3', List.forall_mem_cons.mpr ⟨g4 ha, fun _ h => (by cases h)⟩⟩⟩⟩)
        refine ⟨f1, ?_⟩
        refine iteD (fun hc => ?_) (fun _ => f3)
        obtain ⟨m1, m2, m3, t, r⟩ := f2 hc
        exact use_Grid g ⟨m1, m2, m3, use_Lay t ⟨by omega, r⟩⟩
      · rw [decide_eq_false hb, if_pos (by decide)]
        refine use_Grid g (use_Lay t5 ⟨by omega, ?_⟩)
        obtain ⟨f1, f2, f3⟩ := fin [⟨textOf ws, signsAll ws, a, b, c, e + 1, n⟩, ⟨textOf ws, signsAll ws, a, b, c, e, n - 1⟩, ⟨textOf w3, signsAll w3, a, b, c, e, n⟩, ⟨textOf ws, signsAll ws, 0 - a, b, c, e, n⟩, ⟨textOf ws, signsAll ws, a, 0 - b, c, e, n⟩] (by simp) (by simp) (List.forall_mem_cons.mpr ⟨g1, List.forall_mem_cons.mpr ⟨g2, List.forall_mem_cons.mpr ⟨g3', List.forall_mem_cons.mpr ⟨g4 ha, List.forall_mem_cons.mpr ⟨g5 hb, fun _ h => (by cases h)⟩⟩⟩⟩⟩)
        refine ⟨f1, ?_⟩
        refine iteD (fun hc => ?_) (fun _ => f3)
        obtain ⟨m1, m2, m3, t, r⟩ := f2 hc
        exact use_Grid g ⟨m1, m2, m3, use_Lay t ⟨by omega, r⟩⟩
end

/-! ### reading steps over trees -/

section
variable {P : Program} {w : World} {K : PySem.W.Frag} {mg : Str → Option Value} {base : Heap} {f : Addr} {fd : FuncData} {CG CB CE CS CQ CU CM CD CC CA CR CN CL CT : Addr}
structure One (d : D) : Prop where
  f : flatD d
  b : BdD 1000 d
  ok : okX d
  bk : bulkX d ≤ 100
  dp : deepX d ≤ 10
theorem one_int {i : Int} (h : Bd 200 i) : One (.int i) := ⟨trivial, Bd.int (Nat.lt_of_lt_of_le h (Nat.pow_le_pow_right (by decide) (by decide))), by rw [okX]; exact log_small (k := 200) h (by decide) (by decide), by rw [bulkX] <;> simp, by rw [deepX] <;> simp⟩
theorem one_bl {t : Bool} : One (.bl t) := ⟨trivial, (fun _ h => nomatch h), by rw [okX]; trivial, by rw [bulkX] <;> simp, by rw [deepX] <;> simp⟩
theorem one_non : One .non := ⟨trivial, (fun _ h => nomatch h), by rw [okX]; trivial, by rw [bulkX] <;> simp, by rw [deepX] <;> simp⟩
theorem one_str {z : Str} (h : z.cps.all (· < 0x110000) = true) (hl : z.length ≤ 100) : One (.str z) := ⟨show z.length ≤ 1000 by omega, (fun _ h => nomatch h), by rw [okX]; exact h, by rw [bulkX]; exact hl, by rw [deepX] <;> simp⟩
theorem one_tup0 : One (.tup []) := ⟨Nat.zero_le _, (fun _ h => nomatch h), by rw [okX, okXs]; trivial, by rw [bulkX, bulkXs]; omega, by rw [deepX, deepXs]; omega⟩
theorem one_lst0 : One (.lst []) := ⟨Nat.zero_le _, (fun _ h => nomatch h), by rw [okX, okXs]; trivial, by rw [bulkX, bulkXs]; omega, by rw [deepX, deepXs]; omega⟩
theorem one_tup1 : One (.tup [.int 1]) := ⟨show 1 ≤ 1000 by decide, (fun _ h => nomatch h), by rw [okX, okXs, okXs]; exact ⟨(one_int Bd.o1).ok, trivial⟩, by rw [bulkX, bulkXs, bulkXs, bulkX] <;> simp, by rw [deepX, deepXs, deepXs, deepX] <;> simp⟩
theorem one_lst1 : One (.lst [.int 1]) := ⟨show 1 ≤ 1000 by decide, (fun _ h => nomatch h), by rw [okX, okXs, okXs]; exact ⟨(one_int Bd.o1).ok, trivial⟩, by rw [bulkX, bulkXs, bulkXs, bulkX] <;> simp, by rw [deepX, deepXs, deepXs, deepX] <;> simp⟩
theorem one_dic0 : One (.dic [] []) := ⟨trivial, (fun _ h => nomatch h), by rw [okX, okXs]; exact ⟨(fun _ h => nomatch h), rfl, trivial⟩, by rw [bulkX, bulkXs]; simp, by rw [deepX, deepXs]; simp⟩
theorem show3 {x y u : D} (hx : One x) (hy : One y) (hu : One u) : ShowOk (.tup [x, y, u]) := by
  have := hx.bk
  have := hy.bk
  have := hu.bk
  have := hx.dp
  have := hy.dp
  have := hu.dp
  refine ⟨?_, ?_, ?_⟩
  · rw [okX, okXs, okXs, okXs, okXs]
    exact ⟨hx.ok, hy.ok, hu.ok, trivial⟩
  · rw [bulkX, bulkXs, bulkXs, bulkXs, bulkXs]
    omega
  · rw [deepX, deepXs, deepXs, deepXs, deepXs]
    omega
theorem turn_no1 {x y u : D} (h : ∀ i, x ≠ .int i) : turnB x y u = false := by cases x <;> first | rfl | exact absurd rfl (h _)
theorem turn_no2 {x y u : D} (h : ∀ i, y ≠ .int i) : turnB x y u = false := by cases x <;> first | rfl | (cases y <;> first | rfl | exact absurd rfl (h _))
theorem turn_no3 {x y u : D} (h : ∀ i, u ≠ .int i) : turnB x y u = false := by cases x <;> first | rfl | (cases y <;> first | rfl | (cases u <;> first | rfl | exact absurd rfl (h _)))
theorem turn_int {a b c : Int} (h : ¬ (1 ≤ c ∧ c ≤ 100 ∧ a * a + b * b = c * c)) : turnB (.int a) (.int b) (.int c) = false := by
  show (decide (1 ≤ c) && decide (c ≤ 100) && decide (a * a + b * b = c * c)) = false
  rw [← Bool.not_eq_true]
  intro q
  simp only [Bool.and_eq_true, decide_eq_true_eq] at q
  exact h ⟨q.1.1, q.1.2, q.2⟩
theorem ixN_at' {n i : Nat} (h : i < n) : ixN n (i : Int) = some i := by
  have h1 : (i : Int) < n := by omega
  simp [ixN, h1]
/-- a leg that is longer than the third side -/
theorem turn_leg {x y c : Int} (h : c.natAbs < x.natAbs) : ¬ x * x + y * y = c * c := fun e => by
  have h1 : c.natAbs * c.natAbs < x.natAbs * x.natAbs := Nat.mul_self_lt_mul_self h
  have h2 : ((x.natAbs * x.natAbs : Nat) : Int) = x * x := by rw [Int.natAbs_mul_self]
  have h3 : ((c.natAbs * c.natAbs : Nat) : Int) = c * c := by rw [Int.natAbs_mul_self]
  have h4 : 0 ≤ y * y := by rw [← Int.natAbs_mul_self]; omega
  omega
@[irreducible] def spOdd : PSp := fun ds z R _ => ∃ (p : Addr) (c0 : Cell) (zb : Z) (a b c e n : Int), z = zb.put p c0 ∧ ds = [.adr p, sixD a b c e n] ∧ PotC c0 ∧ Six a b c e n ∧
  ∀ c' x y u, PotC c' → flatD x → flatD y → flatD u → BdD 1000 x → BdD 1000 y → BdD 1000 u → turnB x y u = false → ShowOk (.tup [x, y, u]) → R (.tup [x, y, u]) (zb.put p c')
theorem spOdd_of  {ds : List D} {z : Z} {R : D → Z → Prop} {E : PX} (h_ : ∃ (p : Addr) (c0 : Cell) (zb : Z) (a b c e n : Int), z = zb.put p c0 ∧ ds = [.adr p, sixD a b c e n] ∧ PotC c0 ∧ Six a b c e n ∧
  ∀ c' x y u, PotC c' → flatD x → flatD y → flatD u → BdD 1000 x → BdD 1000 y → BdD 1000 u → turnB x y u = false → ShowOk (.tup [x, y, u]) → R (.tup [x, y, u]) (zb.put p c')) : spOdd ds z R E := by unfold spOdd; exact h_
theorem spOdd_un  {ds : List D} {z : Z} {R : D → Z → Prop} {E : PX} (h_ : spOdd ds z R E) : ∃ (p : Addr) (c0 : Cell) (zb : Z) (a b c e n : Int), z = zb.put p c0 ∧ ds = [.adr p, sixD a b c e n] ∧ PotC c0 ∧ Six a b c e n ∧
  ∀ c' x y u, PotC c' → flatD x → flatD y → flatD u → BdD 1000 x → BdD 1000 y → BdD 1000 u → turnB x y u = false → ShowOk (.tup [x, y, u]) → R (.tup [x, y, u]) (zb.put p c') := by unfold spOdd at h_; exact h_
abbrev s_odd : Stmt := (top 28)
abbrev odd.N : List Str := ["_law_draws", "_law_six", "_law_way", "_law_at", "_law_things", "_law_number"]
abbrev odd.ps : List Str := ["_law_draws", "_law_six"]
theorem sc_odd : FnScope odd.N odd.ps (defScope s_odd) := ⟨rfl, rfl, rfl, by decide +kernel, rfl, by decide +kernel, by decide +kernel⟩
theorem ok_odd (F : Fun K "_law_odd" "_law_odd" s_odd f fd) (T : T52 mg) (C_next : Callee P w K mg base CX0 1 "_law_next" s_next next.ps (lift K spNext)) : FnG P w K mg base CX0 2 f fd odd.ps (lift K spOdd) := by
  refine dbody F sc_odd (fun ds z R RX h => ?_) fun cdv A outer s H E hr hg => ⟨_, (dss_cons (ds_par (i := 2) (j := 3) rfl sc_odd.nd rfl rfl (by decide) rfl rfl (das_cons (C_next.d0 rfl hr hg (atAll pass0) (das_cons (de_var 0) (das_cons de_int das_nil))) (das_cons (C_next.d0 rfl hr hg (atAll pass0) (das_cons (de_var 0) (das_cons de_int das_nil))) das_nil)) (by rfl))
      (dss_cons (ds_own (i := 4) sc_odd.nd rfl (Or.inl rfl) (dn_list rfl (by rfl) T.b_list (by decide +kernel) (da_cons (dp_of (de_slice sd_sl (dp_var 1) do_none (do_some de_int))) da_nil)))
      (dss_cons (ds_if (dt_cmp (od_eq hr.units) (dp_var 2) (dp_of de_int) (nomark _)) (dss_one (ds_ret (de_ty cd_tuple (by rfl) T.b_tuple (by decide +kernel) (da_cons (dp_of (de_new (dn_lc (own := [("_law_number", 5)]) rfl sc_odd.nd (di_any (de_var 4)) (blkOk_by (N := odd.N) (sc := defScope s_odd) (by decide +kernel)) (fun _ _ _ _ _ => (dg_name (i := 5) sc_odd.nd rfl (Or.inl rfl) (Or.inr rfl))) (fun _ _ _ _ _ => dts_nil) (fun _ _ _ _ _ => (de_op od_mul (dp_var 5) (dp_of de_int)))))) da_nil)))) dss_nil)
      (dss_cons (ds_if (dt_cmp (od_eq hr.units) (dp_var 2) (dp_of de_int) (nomark _)) (dss_one (ds_ret (de_tup (das_cons (de_ix od_ix (dp_var 4) (dp_of de_int) (fun _ _ => rfl)) (das_cons (de_ix od_ix (dp_var 4) (dp_of de_int) (fun _ _ => rfl)) (das_cons (de_op od_sub (dp_of de_int) (dp_of (de_ix od_ix (dp_var 4) (dp_of de_int) (fun _ _ => rfl)))) das_nil)))))) dss_nil)
      (dss_cons (ds_if (dt_cmp (od_eq hr.units) (dp_var 2) (dp_of de_int) (nomark _)) (dss_one (ds_ret (de_ix od_ix (dp_of (de_new (dn_lst (das_cons (de_tup (das_cons de_int (das_cons de_int (das_cons de_int das_nil)))) (das_cons (de_tup (das_cons de_bl (das_cons de_int (das_cons de_int das_nil)))) (das_cons (de_tup (das_cons de_int (das_cons de_bl (das_cons de_int das_nil)))) (das_cons (de_tup (das_cons de_int (das_cons de_int (das_cons de_bl das_nil)))) (das_cons (de_tup (das_cons de_int (das_cons de_int (das_cons de_non das_nil)))) das_nil)))))))) (dp_of (C_next.d0 rfl hr hg (atAll pass0) (das_cons (de_var 0) (das_cons de_int das_nil)))) (fun _ _ => rfl)))) dss_nil)
      (dss_cons (ds_if (dt_cmp (od_eq hr.units) (dp_var 2) (dp_of de_int) (nomark _)) (dss_cons (ds_setIx (i := 4) rfl (de_op od_add (dp_of (de_op od_add (dp_of (de_ix od_ix (dp_var 4) (dp_var 3) (fun _ _ => rfl))) (dp_of de_int))) (dp_of (de_op od_mul (dp_of de_int) (dp_of (de_ix od_ix (dp_var 4) (dp_of de_int) (fun _ _ => rfl)))))) (de_var 3))
      (dss_one (ds_ret (de_ty cd_tuple (by rfl) T.b_tuple (by decide +kernel) (da_cons (dp_var 4) da_nil))))) dss_nil)
      (dss_cons (ds_setIx (i := 4) rfl (de_ix od_ix (dp_of (de_new (dn_lst (das_cons de_non (das_cons de_str (das_cons (de_new (dn_lst (das_cons de_int das_nil))) (das_cons (de_tup (das_cons de_int das_nil)) (das_cons de_dict0 (das_cons de_str (das_cons (de_new (dn_lst das_nil)) (das_cons (de_tup das_nil) das_nil))))))))))) (dp_of (C_next.d0 rfl hr hg (atAll pass0) (das_cons (de_var 0) (das_cons de_int das_nil)))) (fun _ _ => rfl)) (de_var 3))
      (dss_one (ds_ret (de_ty cd_tuple (by rfl) T.b_tuple (by decide +kernel) (da_cons (dp_var 4) da_nil))))))))))), fun ds z R RX h => ?_⟩
  · obtain ⟨p, c0, zb, a, b, c, e, n, rfl, rfl, _⟩ := spOdd_un h
    rfl
  · obtain ⟨p, c0, zb, a, b, c, e, n, rfl, rfl, hc0, six, k⟩ := spOdd_un h
    obtain ⟨ba, bb, bc⟩ := six.t.bd
    have ta := six.t.ab
    have tb := six.t.bb
    have tc0 := six.t.c0
    have tc1 := six.t.c1
    have py := six.t.py
    have bd2 : ∀ i : Int, i.natAbs ≤ 20000 → Bd 200 i := fun i h => Nat.lt_of_le_of_lt h (by decide)
    have ec : cutL [D.int a, D.int b, D.int c, D.int e, D.int n] none (some 3) = [.int a, .int b, .int c] := by
      rw [show (3 : Int) = ((3 : Nat) : Int) from rfl, cutL_take]
      rfl
    have legs : a.natAbs ≤ c.natAbs ∧ b.natAbs ≤ c.natAbs := by
      constructor
      · rcases Nat.lt_or_ge c.natAbs a.natAbs with h | h
        · exact absurd py (turn_leg h)
        · exact h
      · rcases Nat.lt_or_ge c.natAbs b.natAbs with h | h
        · exact absurd (show b * b + a * a = c * c by omega) (turn_leg h)
        · exact h
    walk_at "d"
    refine use_next hc0 (by decide) (by decide) fun way c1 hw0 hw1 hc1 => ?_
    refine use_next hc1 (by decide) (by decide) fun at_ c2 ha0 ha1 hc2 => ?_
    have fin : ∀ {x y u : D} {c' : Cell}, PotC c' → One x → One y → One u → turnB x y u = false → R (.tup [x, y, u]) (zb.put p c') := fun hc' hx hy hu ht => k _ _ _ _ hc' hx.f hy.f hu.f hx.b hy.b hu.b ht (show3 hx hy hu)
    walk_at "d"
    simp only [ec]
    refine iteD (fun _ => ?_) (fun _ => ?_)
    · have it : ∀ {m : Nat} {d : D}, ([D.int a, D.int b, D.int c])[m]? = some d → ∃ x, [a, b, c][m]? = some x ∧ d = .int x := fun {m d} h => by
        rw [show ([D.int a, D.int b, D.int c]) = [a, b, c].map D.int from rfl, List.getElem?_map] at h
        obtain ⟨x, hx, e⟩ := Option.map_eq_some_iff.mp h
        exact ⟨x, hx, e.symm⟩
      refine lcD_inv (fun m acc ρ z2 => acc = (([a, b, c].take m).map fun x => D.int (x * 101)) ∧ ∃ b5, ρ = [.val (.adr p), .val (sixD a b c e n), .val (.int way), .val (.int at_), .val (.lst [.int a, .int b, .int c]), b5] ∧ z2 = zb.put p c2) ⟨rfl, _, rfl, rfl⟩ ?_ ?_
      · rintro m d acc ρ z2 hdm ⟨rfl, b5, rfl, rfl⟩
        obtain ⟨x, hx, rfl⟩ := it hdm
        have hm := lt_of_get hx
        have bx : Bd 200 x := by
          have := List.mem_of_getElem? hx
          simp only [List.mem_cons, List.not_mem_nil, or_false] at this
          rcases this with rfl | rfl | rfl <;> assumption
        walk_at "d"
        refine ⟨bx.mulW (m := 10) (by unfold Bd; decide), ?_, ?_, _, rfl⟩
        · rw [List.length_map, List.length_take]
          exact Nat.lt_of_le_of_lt (show _ ≤ 3 from Nat.min_le_right _ _) (by decide)
        · rw [take_snoc hx, List.map_append]
          rfl
      · rintro acc ρ z2 ⟨rfl, b5, rfl, rfl⟩
        walk_at "d"
        exact fin hc2 (one_int (bd2 (a * 101) (by omega))) (one_int (bd2 (b * 101) (by omega))) (one_int (bd2 (c * 101) (by omega))) (turn_int (by omega))
    refine iteD (fun _ => ?_) (fun _ => ?_)
    · refine ⟨_, atI_nat (j := 0) rfl, _, atI_nat (j := 1) rfl, _, atI_nat (j := 2) rfl, ?_⟩
      walk_at "d"
      exact fin hc2 (one_int ba) (one_int bb) (one_int (bd2 (0 - c) (by omega))) (turn_int (by omega))
    refine iteD (fun _ => ?_) (fun _ => ?_)
    · refine use_next hc2 (by decide) (by decide) fun t c3 ht0 ht1 hc3 => ?_
      have o0 := one_int Bd.o0
      have o1 := one_int Bd.o1
      refine pickG (Pd := fun d => ∃ x y u, d = .tup [x, y, u] ∧ One x ∧ One y ∧ One u ∧ turnB x y u = false) ht0 (show t < ((5 : Nat) : Int) from ht1) (List.forall_mem_cons.mpr ⟨⟨_, _, _, rfl, o0, o0, o0, rfl⟩, List.forall_mem_cons.mpr ⟨⟨_, _, _, rfl, one_bl, o0, o1, rfl⟩, List.forall_mem_cons.mpr ⟨⟨_, _, _, rfl, o1, one_bl, o1, rfl⟩, List.forall_mem_cons.mpr ⟨⟨_, _, _, rfl, o1, o0, one_bl, rfl⟩, List.forall_mem_cons.mpr ⟨⟨_, _, _, rfl, o0, o1, one_non, rfl⟩, fun _ h => (by cases h)⟩⟩⟩⟩⟩) ?_
      rintro d ⟨x, y, u, rfl, hx, hy, hu, ht⟩
      exact fin hc3 hx hy hu ht
    obtain ⟨j, rfl⟩ : ∃ j : Nat, at_ = (j : Int) := ⟨at_.toNat, by omega⟩
    have hj : j < 3 := by omega
    refine iteD (fun _ => ?_) (fun _ => ?_)
    · have cm : CMulW 2 c := wide_mul (a := 10) (b := 10) (by decide) (Nat.lt_of_le_of_lt (show c.natAbs ≤ 100 by omega) (by decide)) (by decide) (by decide) (by decide)
      rcases (show j = 0 ∨ j = 1 ∨ j = 2 by omega) with rfl | rfl | rfl
      · refine ⟨_, atI_nat (j := 0) rfl, ?_⟩
        walk_at "d"
        refine ⟨cm, 0, ixN_at' (show 0 < 3 by decide), fin hc2 (one_int (bd2 (a + 1 + 2 * c) (by omega))) (one_int bb) (one_int bc) (turn_int fun h => turn_leg (show c.natAbs < (a + 1 + 2 * c).natAbs by omega) h.2.2)⟩
      · refine ⟨_, atI_nat (j := 1) rfl, ?_⟩
        walk_at "d"
        refine ⟨cm, 1, ixN_at' (show 1 < 3 by decide), fin hc2 (one_int ba) (one_int (bd2 (b + 1 + 2 * c) (by omega))) (one_int bc) (turn_int fun h => turn_leg (x := b + 1 + 2 * c) (y := a) (show c.natAbs < (b + 1 + 2 * c).natAbs by omega) (by have := h.2.2; omega))⟩
      · refine ⟨_, atI_nat (j := 2) rfl, ?_⟩
        walk_at "d"
        refine ⟨cm, 2, ixN_at' (show 2 < 3 by decide), fin hc2 (one_int ba) (one_int bb) (one_int (bd2 (c + 1 + 2 * c) (by omega))) (turn_int fun h => ?_)⟩
        have h1 := h.2.2
        have h2 : (c + 1 + 2 * c) * (c + 1 + 2 * c) = c * c := by omega
        have h3 : c.natAbs * c.natAbs < (c + 1 + 2 * c).natAbs * (c + 1 + 2 * c).natAbs := Nat.mul_self_lt_mul_self (show c.natAbs < (c + 1 + 2 * c).natAbs by omega)
        have h4 : (((c + 1 + 2 * c).natAbs * (c + 1 + 2 * c).natAbs : Nat) : Int) = (c + 1 + 2 * c) * (c + 1 + 2 * c) := by rw [Int.natAbs_mul_self]
        have h5 : ((c.natAbs * c.natAbs : Nat) : Int) = c * c := by rw [Int.natAbs_mul_self]
        omega
    · refine use_next hc2 (by decide) (by decide) fun t c3 ht0 ht1 hc3 => ?_
      have s1 : (Str.ofString "1").cps.all (· < 0x110000) = true ∧ (Str.ofString "1").length ≤ 100 := by decide +kernel
      have s2 : (Str.ofString "a").cps.all (· < 0x110000) = true ∧ (Str.ofString "a").length ≤ 100 := by decide +kernel
      refine pickG (Pd := fun d => One d ∧ ∀ i, d ≠ .int i) ht0 (show t < ((8 : Nat) : Int) from ht1) (List.forall_mem_cons.mpr ⟨⟨one_non, nofun⟩, List.forall_mem_cons.mpr ⟨⟨one_str s1.1 s1.2, nofun⟩, List.forall_mem_cons.mpr ⟨⟨one_lst1, nofun⟩, List.forall_mem_cons.mpr ⟨⟨one_tup1, nofun⟩, List.forall_mem_cons.mpr ⟨⟨one_dic0, nofun⟩, List.forall_mem_cons.mpr ⟨⟨one_str s2.1 s2.2, nofun⟩, List.forall_mem_cons.mpr ⟨⟨one_lst0, nofun⟩, List.forall_mem_cons.mpr ⟨⟨one_tup0, nofun⟩, fun _ h => (by cases h)⟩⟩⟩⟩⟩⟩⟩⟩) ?_
      rintro d ⟨od, nd⟩
      rcases (show j = 0 ∨ j = 1 ∨ j = 2 by omega) with rfl | rfl | rfl
      · exact ⟨0, ixN_at' (show 0 < 3 by decide), fin hc3 od (one_int bb) (one_int bc) (turn_no1 nd)⟩
      · exact ⟨1, ixN_at' (show 1 < 3 by decide), fin hc3 (one_int ba) od (one_int bc) (turn_no2 nd)⟩
      · exact ⟨2, ixN_at' (show 2 < 3 by decide), fin hc3 (one_int ba) (one_int bb) od (turn_no3 nd)⟩
end

/-! ### reading steps over trees -/

/-! ### the classes of the program's exceptions -/
structure Err1 (K : PySem.W.Frag) (mg : Str → Option Value) (x : Str) (A : Addr) : Prop where
  g : mg x = some (.ref A)
  c : IsC K A
structure ErrK (K : PySem.W.Frag) (E C : Addr) (As : List Addr) : Prop where
  exc : ExcC K C
  own : PySem.W.subIn K (.ref C) (.ref C) = some true
  val : PySem.W.subIn K (.ref C) (.type "ValueError") = some true
  sup : PySem.W.subIn K (.ref C) (.ref E) = some true
  base : PySem.W.subIn K (.ref E) (.type "BaseException") = some true
  supC : IsC K E
  oth : ∀ A ∈ As, IsC K A ∧ PySem.W.subIn K (.ref C) (.ref A) = some false
section
variable {K : PySem.W.Frag} {E C : Addr} {As : List Addr}
theorem isc_cls {t : Value} {A : Addr} {b : Bool} (c : IsC K A) (s : PySem.W.subIn K t (.ref A) = some b) : PySem.W.kitCls K t (.ref A) = some b := by
  unfold PySem.W.kitCls
  have q : (PySem.W.clsIn K A).isSome = true := c.c
  show (if ((PySem.W.clsIn K A).isSome && PySem.W.typeIn K (.ref A) == some (.type "type")) = true then PySem.W.subIn K t (.ref A) else none) = some b
  rw [if_pos (by rw [q, c.t]; rfl)]
  exact s
theorem ErrK.exm (h : ErrK K E C As) : PySem.W.exmOne K (.ref C) (.ref E) = some true := by
  unfold PySem.W.exmOne
  rw [h.base, if_pos (by rfl)]
  exact isc_cls h.supC h.sup
theorem ErrK.kOwn (_ : ErrK K E C As) : PySem.W.kitOne K (.ref C) (.ref C) = some true := by
  unfold PySem.W.kitOne
  rw [if_pos (by rw [beq_self_eq_true])]
theorem ErrK.kVal (h : ErrK K E C As) : PySem.W.kitOne K (.ref C) (.type "ValueError") = some true := by
  unfold PySem.W.kitOne
  rw [if_neg (by intro e; cases e)]
  unfold PySem.W.kitCls
  show (if PySem.W.kitMeta "ValueError" = true then PySem.W.subIn K (.ref C) (.type "ValueError") else none) = some true
  rw [if_pos (by decide +kernel)]
  exact h.val
theorem ErrK.kOth (h : ErrK K E C As) {A : Addr} (m : A ∈ As) : PySem.W.kitOne K (.ref C) (.ref A) = some false := by
  obtain ⟨hc, hs⟩ := h.oth A m
  have n : C ≠ A := fun e => by rw [← e, h.own] at hs; cases hs
  exact hc.kit (beq_eq_false_iff_ne.mpr fun e => n (by cases e; rfl)) hs
theorem ErrK.isOwn (h : ErrK K E C As) : isOf K (.ref C) (.adr C) true := ⟨_, rfl, h.kOwn⟩
theorem ErrK.isVal (h : ErrK K E C As) : isOf K (.ref C) (.ty "ValueError") true := ⟨_, rfl, h.kVal⟩
theorem clsDs_adr : ∀ l : List Addr, clsDs (l.map .adr) = some (l.map .ref)
  | [] => rfl
  | a :: l => by
    rw [List.map_cons, clsDs, clsDs_adr l]
    rfl
theorem ErrK.isAny (h : ErrK K E C As) (l : List Addr) (m : ∀ A ∈ l, A ∈ As) : isOf K (.ref C) (.tup (l.map .adr)) false := by
  refine ⟨_, clsDs_adr l, ?_⟩
  induction l with
  | nil => rfl
  | cons a l ih =>
    rw [List.map_cons]
    unfold PySem.W.kitAny
    rw [h.kOth (m a List.mem_cons_self)]
    exact ih fun A q => m A (List.mem_cons_of_mem _ q)
end

section
variable {P : Program} {w : World} {K : PySem.W.Frag} {mg : Str → Option Value} {base : Heap} {f : Addr} {fd : FuncData} {CG CB CE CS CQ CU CM CD CC CA CR CN CL CT : Addr}
theorem kb_Lay_init_3_c {K : PySem.W.Frag} {f : Addr} {fd : FuncData} (F : FunD K "__init__" "Lay.__init__" (defArgs s_Lay_init) (defBody s_Lay_init) (defScope s_Lay_init) [(.int 1), (.int 0), (.int 1), (.int 0), (.int 0)] [] f fd) : ∃ g, KwB K fd Lay_init.ps 4 ["c"] g (fun us ws => match us, ws with | [u0, u1, u2, u3], [w0] => [u0, u1, u2, u3, w0, (.int 0), (.int 0)] | _, _ => []) :=
  FunD_kbL F 4 ["c"] (fun us its ws => match us, its, ws with | [u0, u1, u2, u3], [t0, t1, t2, t3, t4], [w0] => [u0, u1, u2, u3, w0, t3, t4] | _, _, _ => []) (fun us ws => match us, ws with | [u0, u1, u2, u3], [w0] => [u0, u1, u2, u3, w0, (.int 0), (.int 0)] | _, _ => []) (List.cons_ne_nil _ _) (fun vs zs us its ws h1 h2 r1 rT r2 => match vs, zs, us, its, ws, h1, h2, r1, rT, r2 with | [v0, v1, v2, v3], [z0], [u0, u1, u2, u3], [t0, t1, t2, t3, t4], [w0], _, _, .cons r0 (.cons r1 (.cons r2 (.cons r3 (.nil)))), .cons x0 (.cons x1 (.cons x2 (.cons x3 (.cons x4 (.nil))))), .cons q0 (.nil) => .cons r0 (.cons r1 (.cons r2 (.cons r3 (.cons q0 (.cons x3 (.cons x4 (.nil))))))))
    (fun T kV doc pm an cdv ct us its ws h1 h2 h3 => match us, its, ws, h1, h2, h3 with | [u0, u1, u2, u3], [t0, t1, t2, t3, t4], [w0], _, _, _ => ⟨_, rfl, by rfl⟩)
theorem kd_Lay_init_3_c : KwM 3 (List.length ["c"]) (fun us ws => match us, ws with | [u0, u1, u2, u3], [w0] => [u0, u1, u2, u3, w0, (.int 0), (.int 0)] | _, _ => []) (fun us ws => match us, ws with | [u0, u1, u2], [w0] => [u0, u1, u2, w0, (.int 0), (.int 0)] | _, _ => []) := fun x vs zs h1 h2 => by
  match vs, zs, h1, h2 with
  | [v0, v1, v2], [z0], _, _ =>
    refine ⟨[v0, v1, v2, z0, (.int 0), (.int 0)], rfl, fun K N H ds es r q => ?_⟩
    match ds, es, Reps.length r, Reps.length q with
    | [d0, d1, d2], [e0], _, _ =>
      simp only [Reps, List.cons.injEq] at r q
      obtain ⟨_, _, ⟨er0, tr0⟩, r0, r⟩ := r
      subst er0 tr0
      simp only [List.cons.injEq] at r
      obtain ⟨_, _, ⟨er1, tr1⟩, r1, r⟩ := r
      subst er1 tr1
      simp only [List.cons.injEq] at r
      obtain ⟨_, _, ⟨er2, tr2⟩, r2, r⟩ := r
      subst er2 tr2
      obtain ⟨_, _, ⟨eq0, tq0⟩, q0, q⟩ := q
      subst eq0 tq0
      exact (Reps.cons r0 (Reps.cons r1 (Reps.cons r2 (Reps.cons q0 (Reps.cons (by rw [Rep]) (Reps.cons (by rw [Rep]) Reps.nil))))))
@[irreducible] def spRef52 : PSp := fun ds z R _ => ∃ (ws : List (List Nat)) (x y u : D), ds = [.str (S (textOf ws)), .tup [x, y, u]] ∧ WsOk ws ∧ flatD x ∧ flatD y ∧ flatD u ∧ BdD 1000 x ∧ BdD 1000 y ∧ BdD 1000 u ∧ turnB x y u = false ∧ ShowOk (.tup [x, y, u]) ∧ R (.bl true) z
theorem spRef52_of  {ds : List D} {z : Z} {R : D → Z → Prop} {E : PX} (h_ : ∃ (ws : List (List Nat)) (x y u : D), ds = [.str (S (textOf ws)), .tup [x, y, u]] ∧ WsOk ws ∧ flatD x ∧ flatD y ∧ flatD u ∧ BdD 1000 x ∧ BdD 1000 y ∧ BdD 1000 u ∧ turnB x y u = false ∧ ShowOk (.tup [x, y, u]) ∧ R (.bl true) z) : spRef52 ds z R E := by unfold spRef52; exact h_
theorem spRef52_un  {ds : List D} {z : Z} {R : D → Z → Prop} {E : PX} (h_ : spRef52 ds z R E) : ∃ (ws : List (List Nat)) (x y u : D), ds = [.str (S (textOf ws)), .tup [x, y, u]] ∧ WsOk ws ∧ flatD x ∧ flatD y ∧ flatD u ∧ BdD 1000 x ∧ BdD 1000 y ∧ BdD 1000 u ∧ turnB x y u = false ∧ ShowOk (.tup [x, y, u]) ∧ R (.bl true) z := by unfold spRef52 at h_; exact h_
abbrev s_refused : Stmt := (top 29)
abbrev refused.N : List Str := ["_law_text", "_law_things", "_law_caught", "_law_e"]
abbrev refused.ps : List Str := ["_law_text", "_law_things"]
theorem sc_refused : FnScope refused.N refused.ps (defScope s_refused) := ⟨rfl, rfl, rfl, by decide +kernel, rfl, by decide +kernel, by decide +kernel⟩
theorem ok_ref52 {As : List Addr} (F : Fun K "_law_refused" "_law_refused" s_refused f fd) (T : T52 mg) (GF : GridFn P w K mg base CG CB) (Z_GridError : Err1 K mg "GridError" CE) (Z_BadTurn : Err1 K mg "BadTurn" CT) (Z_BadGrid : Err1 K mg "BadGrid" CB) (Z_BadSquare : Err1 K mg "BadSquare" CQ) (Z_NoDeed : Err1 K mg "NoDeed" CD) (Z_NoRatio : Err1 K mg "NoRatio" CN) (Z_Unlike : Err1 K mg "Unlike" CU)
    (ZK_BadTurn : ErrK K CE CT As) (mB : CB ∈ As) (mQ : CQ ∈ As) (mD : CD ∈ As) (mN : CN ∈ As) (mU : CU ∈ As) (X_BadTurn : ExcOk P w K mg base "BadTurn" CT ["a", "b", "c"] BadTurn_init.ps)
    (C_Lay : Maker P w K mg base (L2.CX P w) 3 "Lay" CL (dD s_Lay_init "__init__" "Lay.__init__" [.int 1, .int 0, .int 1, .int 0, .int 0] K) Lay_init.ps (liftI K CL (spLayI CT))) : FnG P w K mg base CX0 6 f fd refused.ps (lift K spRef52) := by
  obtain ⟨O_Grid, G_Grid, N_Grid, R_Grid, W_Grid, I_Grid, C_Grid, C_Grid_eq, C_Grid_len, C_Grid_str, C_Grid_repr, C_Grid_alphabet, C_Grid_cut, C_Grid_side⟩ := GF
  refine dbody F sc_refused (fun ds z R RX h => ?_) fun cdv A outer s H E hr hg => ⟨_, (dss_cons (ds_set (i := 2) sc_refused.nd rfl (Or.inl rfl) de_non)
      (dss_cons (ds_tryK (i := 3) rfl rfl rfl sc_refused.nd rfl rfl ⟨rfl, by decide, Or.inl Z_GridError.g⟩ takes0 (fun W pn xe tk pw => by exact (dss_one (ds_expr (C_Lay.dkwG kd_Lay_init_3_c (fun _ _ q => kb_Lay_init_3_c q) rfl hr hg (fun σ => passAt tk σ) (das_cons (C_Grid.dE rfl hr hg (fun σ => passAt tk σ) (das_cons (de_var 0) das_nil)) (das_cons (de_ix od_ix (dp_var 1) (dp_of de_int) (fun _ _ => rfl)) (das_cons (de_ix od_ix (dp_var 1) (dp_of de_int) (fun _ _ => rfl)) das_nil))) (dk_cons (de_ix od_ix (dp_var 1) (dp_of de_int) (fun _ _ => rfl)) dk_nil))))) (fun a oe cls d pn hz hf => by exact (dss_one (ds_setX (i := 3) (j := 2) sc_refused.nd rfl rfl (Or.inl rfl)))))
      (dss_cons (ds_if (DWt.pt (dw_or (dt_not (dt_truth (dp_of (de_isE (de_var 2) (de_c (pe_globR rfl Z_BadTurn.g) (fun _ _ => Rep.a)) (by rfl) T.b_isinstance (by decide +kernel))))) (dw_or1 (dt_not (dt_truth (dp_of (de_isE (de_var 2) (de_c (pe_bltn (v := .ty "ValueError") (u := .type "ValueError") (by rfl) T.b_ValueError (by decide +kernel) rfl) (fun _ _ => Rep.t)) (by rfl) T.b_isinstance (by decide +kernel)))))))) (dss_one (ds_ret de_bl)) dss_nil)
      (dss_cons (ds_if (dt_truth (dp_of (de_isE (de_var 2) (de_tup (das_cons (de_c (pe_globR rfl Z_BadGrid.g) (fun _ _ => Rep.a)) (das_cons (de_c (pe_globR rfl Z_BadSquare.g) (fun _ _ => Rep.a)) (das_cons (de_c (pe_globR rfl Z_NoDeed.g) (fun _ _ => Rep.a)) (das_cons (de_c (pe_globR rfl Z_NoRatio.g) (fun _ _ => Rep.a)) (das_cons (de_c (pe_globR rfl Z_Unlike.g) (fun _ _ => Rep.a)) das_nil)))))) (by rfl) T.b_isinstance (by decide +kernel)))) (dss_one (ds_ret de_bl)) dss_nil)
      (dss_one (ds_ret (de_cmp (od_eq hr.units) (dp_of (de_fn (cd_reprX hg (by have q := room150 hr; exact q)) (by rfl) T.b_repr (by decide +kernel) (da_cons (dp_of (de_tup (das_cons (de_xfV X_BadTurn.xf (X_BadTurn.no "a" (by simp)) (dp_var 2) rfl) (das_cons (de_xfV X_BadTurn.xf (X_BadTurn.no "b" (by simp)) (dp_var 2) rfl) (das_cons (de_xfV X_BadTurn.xf (X_BadTurn.no "c" (by simp)) (dp_var 2) rfl) das_nil))))) da_nil))) (dp_of (de_fn (cd_reprX hg (by have q := room150 hr; exact q)) (by rfl) T.b_repr (by decide +kernel) (da_cons (dp_var 1) da_nil))) (nomark _)))))))), fun ds z R RX h => ?_⟩
  · obtain ⟨ws, x, y, u, rfl, _⟩ := spRef52_un h
    rfl
  · obtain ⟨ws, x, y, u, rfl, hw, fx, fy, fu, bx, by_, bu, ht, ok, k⟩ := spRef52_un h
    have g := hw.grid
    walk_at "d"
    refine use_Grid g ?_
    refine spLayI_of ⟨_, x, y, u, _, _, rfl, fx, fy, fu, bx, by_, bu, .inr ⟨ht, ?_⟩⟩
    refine ⟨true, ZK_BadTurn.exm, fun _ a od ho => ?_, fun h => by cases h⟩
    refine ⟨_, _, _, true, rfl, ZK_BadTurn.exc, ZK_BadTurn.isOwn, ?_⟩
    rw [if_neg (by decide)]
    refine ⟨_, _, _, true, rfl, ZK_BadTurn.exc, ZK_BadTurn.isVal, ?_⟩
    rw [if_neg (by decide)]
    refine ⟨_, _, _, false, rfl, ZK_BadTurn.exc, ZK_BadTurn.isAny [CB, CQ, CD, CN, CU] (fun A m => ?_), ?_⟩
    · simp only [List.mem_cons, List.not_mem_nil, or_false] at m
      rcases m with rfl | rfl | rfl | rfl | rfl <;> assumption
    rw [if_neg (by decide)]
    walk_at "d"
    refine ⟨x, rfl, y, rfl, u, rfl, ?_⟩
    refine use_reprX ok.ok ok.bk ok.dp ?_
    refine use_reprX ok.ok ok.bk ok.dp ?_
    walk_at "d"
    exact k
end

/-! ### reading steps over trees -/

section
variable {P : Program} {w : World} {K : PySem.W.Frag} {mg : Str → Option Value} {base : Heap} {f : Addr} {fd : FuncData} {CG CB CE CS CQ CU CM CD CC CA CR CN CL CT : Addr}
theorem firm_ly {q : LayX} : firm (lyD CL CG q) := by
  have h : firms (strsD q.al) := firms_map fun a _ => by rw [firm]; trivial
  show firm (.ins CL layNs [gridD CG q.l q.al, .int q.a, .int q.b, .int q.c, .int q.e, .int q.n])
  unfold gridD
  simp only [firm, firms, and_true, true_and]
  exact h
theorem lyEq_symm {q r : LayX} (h : lyEq q r) : lyEq r q := ⟨h.1.symm, h.2.1.symm, h.2.2.1.symm, h.2.2.2.1.symm, h.2.2.2.2.1.symm, h.2.2.2.2.2.symm⟩
theorem lyEq_refl (q : LayX) : lyEq q q := ⟨rfl, rfl, rfl, rfl, rfl, rfl⟩
theorem lyEq_of {q r : LayX} (h : lyD CL CG q = lyD CL CG r) : lyEq q r := by
  unfold lyD layD gridD at h
  injection h with _ _ h
  injection h with h1 h
  injection h with h2 h
  injection h with h3 h
  injection h with h4 h
  injection h with h5 h
  injection h with h6 h
  injection h1 with _ _ h1
  injection h1 with h1 _
  injection h1 with h1
  injection h2 with h2
  injection h3 with h3
  injection h4 with h4
  injection h5 with h5
  injection h6 with h6
  exact ⟨S_inj h1, h2, h3, h4, h5, h6⟩
theorem use_lyEq {q r : LayX} {z : Z} {R : D → Z → Prop} {E : PX} (oq : LayX.Ok q) (or_ : LayX.Ok r) {b : Bool} (hb : decide (lyEq q r) = b) (k : R (.bl b) z) : spLyEq K CL CG [lyD CL CG q, lyD CL CG r] z R E :=
  spLyEq_of ⟨q, _, rfl, oq, .inl ⟨r, or_, rfl, by rw [hb]; exact k⟩⟩
theorem eqI_ly {q r : LayX} {z : Z} (oq : LayX.Ok q) (or_ : LayX.Ok r) {b : Bool} (hb : decide (lyEq q r) = b) : EqI CL (spLyEq K CL CG) z 0 (lyD CL CG q) (lyD CL CG r) b :=
  .own ⟨_, _, rfl⟩ ⟨_, _, rfl⟩ firm_ly firm_ly (use_lyEq oq or_ hb ⟨rfl, rfl⟩) fun e => by rw [← hb]; exact decide_eq_true (lyEq_of e)
@[irreducible] def spEqR (CL CG : Addr) : PSp := fun ds z R _ => ∃ (q : LayX) (qs : List LayX), ds = [lyD CL CG q, lyD CL CG q, .lst (qs.map (lyD CL CG))] ∧ LayX.Ok q ∧ qs ≠ [] ∧ qs.length ≤ 10 ∧ (∀ r ∈ qs, LayX.Ok r ∧ ¬ lyEq q r) ∧ R (.bl true) z
theorem spEqR_of {CL CG : Addr} {ds : List D} {z : Z} {R : D → Z → Prop} {E : PX} (h_ : ∃ (q : LayX) (qs : List LayX), ds = [lyD CL CG q, lyD CL CG q, .lst (qs.map (lyD CL CG))] ∧ LayX.Ok q ∧ qs ≠ [] ∧ qs.length ≤ 10 ∧ (∀ r ∈ qs, LayX.Ok r ∧ ¬ lyEq q r) ∧ R (.bl true) z) : spEqR CL CG ds z R E := by unfold spEqR; exact h_
theorem spEqR_un {CL CG : Addr} {ds : List D} {z : Z} {R : D → Z → Prop} {E : PX} (h_ : spEqR CL CG ds z R E) : ∃ (q : LayX) (qs : List LayX), ds = [lyD CL CG q, lyD CL CG q, .lst (qs.map (lyD CL CG))] ∧ LayX.Ok q ∧ qs ≠ [] ∧ qs.length ≤ 10 ∧ (∀ r ∈ qs, LayX.Ok r ∧ ¬ lyEq q r) ∧ R (.bl true) z := by unfold spEqR at h_; exact h_
abbrev s_equal_right : Stmt := (top 30)
abbrev equal_right.N : List Str := ["_law_lay", "_law_same", "_law_others_here", "_law_other", "_law_thing"]
abbrev equal_right.ps : List Str := ["_law_lay", "_law_same", "_law_others_here"]
theorem sc_equal_right : FnScope equal_right.N equal_right.ps (defScope s_equal_right) := ⟨rfl, rfl, rfl, by decide +kernel, rfl, by decide +kernel, by decide +kernel⟩
theorem ok_equal_right (F : Fun K "_law_equal_right" "_law_equal_right" s_equal_right f fd) (T : T52 mg) (O : Own K CL layNs) (N_Lay : NoNe K CL) (I_Lay : IsC K CL) (hkL : PySem.W.kitOne K (.ref CG) (.ref CL) = some false) (hnL : PySem.W.notFirst K CL (.ref CG) = true) (GF : GridFn P w K mg base CG CB)
    (C_Lay_eq : Method P w K mg base CX0 3 CL "__eq__" (dR s_Lay_eq "__eq__" "Lay.__eq__" K) Lay_eq.ps (lift K (spLyEq K CL CG))) : FnG P w K mg base CX0 6 f fd equal_right.ps (lift K (spEqR CL CG)) := by
  obtain ⟨O_Grid, G_Grid, N_Grid, R_Grid, W_Grid, I_Grid, C_Grid, C_Grid_eq, C_Grid_len, C_Grid_str, C_Grid_repr, C_Grid_alphabet, C_Grid_cut, C_Grid_side⟩ := GF
  refine dbody F sc_equal_right (fun ds z R RX h => ?_) fun cdv A outer s H E hr hg => ⟨_, (dss_cons (ds_if (DWt.pt (dw_or (dt_not (Method.tEqK (K := K) rfl C_Lay_eq hr hg (de_var 0) (de_var 1))) (dw_or (Method.tNeK (K := K) rfl C_Lay_eq N_Lay hr hg (de_var 0) (de_var 1)) (dw_or (dt_not (Method.tEqK (K := K) rfl C_Lay_eq hr hg (de_var 1) (de_var 0))) (dw_or (Method.tNotInL (n := 0) C_Lay_eq hr hg (de_var 0) (de_new (dn_lst (das_cons (de_var 1) das_nil)))) (dw_or1 (Method.tNotInL (n := 0) C_Lay_eq hr hg (de_var 1) (de_new (dn_lst (das_cons (de_ix od_ix (dp_var 2) (dp_of de_int) (fun _ _ => rfl)) (das_cons (de_var 0) das_nil))))))))))) (dss_one (ds_ret de_bl)) dss_nil)
      (dss_cons (ds_if (DWt.pt (dw_or (dt_truth (dp_of (de_fn (cd_any rfl) (by rfl) T.b_any (by decide +kernel) (da_cons (dp_of (de_new (dn_lc (own := [("_law_other", 3)]) rfl sc_equal_right.nd (di_any (de_var 2)) (blkOk_by (N := equal_right.N) (sc := defScope s_equal_right) (by decide +kernel)) (fun _ _ _ _ _ => (dg_name (i := 3) sc_equal_right.nd rfl (Or.inl rfl) (Or.inr rfl))) (fun _ _ _ _ _ => dts_nil) (fun _ _ _ _ _ => (de_or (Method.dEqK (K := K) rfl C_Lay_eq hr hg (de_var 0) (de_var 3)) (de_one (de_not (dp_of (Method.dNeK (K := K) rfl C_Lay_eq N_Lay hr hg (de_var 0) (de_var 3)))))))))) da_nil)))) (dw_or1 (Method.tInL (n := 0) C_Lay_eq hr hg (de_var 0) (de_var 2))))) (dss_one (ds_ret de_bl)) dss_nil)
      (dss_one (ds_ret (de_not (dp_of (de_fn (cd_any rfl) (by rfl) T.b_any (by decide +kernel) (da_cons (dp_of (de_new (dn_lc (own := [("_law_thing", 4)]) rfl sc_equal_right.nd (di_any (de_tup (das_cons de_non (das_cons de_int (das_cons de_str (das_cons (de_tup (das_cons de_int (das_cons de_int (das_cons de_int das_nil)))) (das_cons (de_fldK (K := K) rfl (dp_var 0) rfl) das_nil))))))) (blkOk_by (N := equal_right.N) (sc := defScope s_equal_right) (by decide +kernel)) (fun _ _ _ _ _ => (dg_name (i := 4) sc_equal_right.nd rfl (Or.inl rfl) (Or.inr rfl))) (fun _ _ _ _ _ => dts_nil) (fun _ _ _ _ _ => (Method.dEqK (K := K) rfl C_Lay_eq hr hg (de_var 0) (de_var 4)))))) da_nil)))))))), fun ds z R RX h => ?_⟩
  · obtain ⟨q, qs, rfl, _⟩ := spEqR_un h
    rfl
  · obtain ⟨q, qs, rfl, ok, hne, hq10, hqs, k⟩ := spEqR_un h
    cases qs with
    | nil => exact absurd rfl hne
    | cons q0 qs' =>
    have okr : ∀ r ∈ q0 :: qs', LayX.Ok r ∧ decide (lyEq q r) = false ∧ decide (lyEq r q) = false := fun r m => ⟨(hqs r m).1, decide_eq_false (hqs r m).2, decide_eq_false fun h => (hqs r m).2 (lyEq_symm h)⟩
    have rf : decide (lyEq q q) = true := decide_eq_true (lyEq_refl q)
    have self : ∃ t, tyD K (lyD CL CG q) t ∧ PySem.W.notFirst K CL t = true := ⟨.ref CL, ⟨rfl, O.oty⟩, notFirst_self⟩
    have selfr : ∀ r : LayX, ∃ t, tyD K (lyD CL CG r) t ∧ PySem.W.notFirst K CL t = true := fun r => ⟨.ref CL, ⟨rfl, O.oty⟩, notFirst_self⟩
    walk_at "d"
    refine ⟨⟨_, _, rfl⟩, self, use_lyEq ok ok rf ?_⟩
    walk_at "d"
    refine ⟨⟨_, _, rfl⟩, self, use_lyEq ok ok rf ?_⟩
    walk_at "d"
    refine ⟨⟨_, _, rfl⟩, self, use_lyEq ok ok rf ?_⟩
    walk_at "d"
    refine ⟨[lyD CL CG q], fun _ => true, .inl rfl, fun j y h => ?_, ?_⟩
    · match j, h with
      | 0, h =>
        cases h
        exact eqI_ly ok ok rf
    rw [show [lyD CL CG q].length = 1 from rfl, if_neg (show ¬ (!(List.range 1).any fun _ => true) = true by decide)]
    refine ⟨[lyD CL CG q0, lyD CL CG q], fun j => decide (j = 1), .inl rfl, fun j y h => ?_, ?_⟩
    · match j, h with
      | 0, h =>
        cases h
        exact eqI_ly (okr q0 (by simp)).1 ok (okr q0 (by simp)).2.2
      | 1, h =>
        cases h
        exact eqI_ly ok ok rf
    rw [show [lyD CL CG q0, lyD CL CG q].length = 2 from rfl, if_neg (show ¬ (!(List.range 2).any fun j => decide (j = 1)) = true by decide)]
    refine lcD_inv (fun m acc ρ z3 => (∃ bs : List Bool, acc = bs.map .bl ∧ bs.length = m ∧ bs.any id = false) ∧ ∃ b3, ρ = [.val (lyD CL CG q), .val (lyD CL CG q), .val (.lst ((q0 :: qs').map (lyD CL CG))), b3, .any] ∧ z3 = z) ⟨⟨[], rfl, rfl, rfl⟩, _, rfl, rfl⟩ ?_ ?_
    · rintro m d acc ρ z3 hdm ⟨⟨bs, rfl, hbl, hba⟩, b3, rfl, rfl⟩
      have hdm : ((q0 :: qs').map (lyD CL CG))[m]? = some d := hdm
      rw [List.getElem?_map] at hdm
      obtain ⟨r, hr, rfl⟩ := Option.map_eq_some_iff.mp hdm
      obtain ⟨o1, o2, o3⟩ := okr r (List.mem_of_getElem? hr)
      have hm := lt_of_get hr
      walk_at "d"
      refine ⟨⟨_, _, rfl⟩, selfr r, use_lyEq ok o1 o2 ?_⟩
      walk_at "d"
      refine ⟨⟨_, _, rfl⟩, selfr r, use_lyEq ok o1 o2 ?_⟩
      walk_at "d"
      refine ⟨?_, ⟨bs ++ [false], by rw [List.map_append]; rfl, by rw [List.length_append, hbl]; rfl, by rw [List.any_append, hba]; rfl⟩, _, rfl⟩
      rw [List.length_map, hbl]
      exact Nat.lt_of_lt_of_le (show m < 20 by omega) (by decide)
    · rintro acc ρ z3 ⟨⟨bs, rfl, hbl, hba⟩, b3, rfl, rfl⟩
      walk_at "d"
      refine ⟨bs, rfl, ?_⟩
      rw [if_neg (by rw [hba]; decide)]
      refine ⟨(q0 :: qs').map (lyD CL CG), fun _ => false, .inl rfl, fun j y h => ?_, ?_⟩
      · rw [List.getElem?_map] at h
        obtain ⟨r, hr, rfl⟩ := Option.map_eq_some_iff.mp h
        obtain ⟨o1, o2, o3⟩ := okr r (List.mem_of_getElem? hr)
        exact eqI_ly o1 ok o3
      rw [if_neg (by simp), fldL_grid O]
      have oth : ∀ d ∈ ([.non, .int 1, .str (Str.ofString "Lay"), .tup [.int 1, .int 0, .int 1], gridD CG q.l q.al] : List D), ∃ t, tyD K d t ∧ PySem.W.kitOne K t (.ref CL) = some false ∧ PySem.W.notFirst K CL t = true :=
        List.forall_mem_cons.mpr ⟨I_Lay.data trivial, List.forall_mem_cons.mpr ⟨I_Lay.data trivial, List.forall_mem_cons.mpr ⟨I_Lay.data trivial, List.forall_mem_cons.mpr ⟨I_Lay.data trivial, List.forall_mem_cons.mpr ⟨⟨.ref CG, ⟨rfl, O_Grid.oty⟩, hkL, hnL⟩, fun _ h => (by cases h)⟩⟩⟩⟩⟩
      refine lcD_inv (fun m acc ρ z4 => (∃ bs : List Bool, acc = bs.map .bl ∧ bs.length = m ∧ bs.any id = false) ∧ ∃ b4, ρ = [.val (lyD CL CG q), .val (lyD CL CG q), .val (.lst ((q0 :: qs').map (lyD CL CG))), b3, b4] ∧ z4 = z3) ⟨⟨[], rfl, rfl, rfl⟩, _, rfl, rfl⟩ ?_ ?_
      · rintro m d acc ρ z4 hdm ⟨⟨bs2, rfl, hbl2, hba2⟩, b4, rfl, rfl⟩
        obtain ⟨t, ht, hk, hn⟩ := oth d (List.mem_of_getElem? hdm)
        have hm := lt_of_get hdm
        have hm5 : m < 5 := hm
        walk_at "d"
        refine ⟨⟨_, _, rfl⟩, ⟨t, ht, hn⟩, spLyEq_of ⟨q, d, rfl, ok, .inr ⟨t, ht, hk, ?_⟩⟩⟩
        refine ⟨?_, ⟨bs2 ++ [false], by rw [List.map_append]; rfl, by rw [List.length_append, hbl2]; rfl, by rw [List.any_append, hba2]; rfl⟩, _, rfl, rfl⟩
        rw [List.length_map, hbl2]
        exact Nat.lt_of_lt_of_le (show m < 20 by omega) (by decide)
      · rintro acc ρ z4 ⟨⟨bs2, rfl, hbl2, hba2⟩, b4, rfl, rfl⟩
        walk_at "d"
        refine ⟨bs2, rfl, ?_⟩
        rw [hba2]
        exact k
end

/-! ### reading steps over trees -/

section
variable {P : Program} {w : World} {K : PySem.W.Frag} {mg : Str → Option Value} {base : Heap} {f : Addr} {fd : FuncData} {CG CB CE CS CQ CU CM CD CC CA CR CN CL CT : Addr}
theorem pick2 {x y : D} {t : Bool} {Pd : D → Prop} {k : D → Prop} (h0 : Pd x) (h1 : Pd y) (hk : ∀ d, Pd d → k d) : ∃ d, atI [x, y] (if t = true then 1 else 0) = some d ∧ k d := by
  cases t
  · exact ⟨x, atI_nat (j := 0) rfl, hk x h0⟩
  · exact ⟨y, atI_nat (j := 1) rfl, hk y h1⟩
theorem use_reprT {ns : List Int} {k : D → Prop} (h : ∀ n ∈ ns, n.natAbs.log2 < 1920) (hl : ns.length ≤ 100) (q : k (.str (showD (.tup (ns.map .int))))) : reprD [.tup (ns.map .int)] k := by
  have b := bulk_ints ns
  have d := deep_ints ns
  exact use_repr (by rw [okD]; exact ok_ints h) (by rw [bulkD]; omega) (by rw [deepD]; omega) q
@[irreducible] def spLaw : PSp := fun ds z R _ => ∃ ns : List Int, ds = [.rol (ns.map .int)] ∧ (∀ x ∈ ns, x.natAbs.log2 ≤ 1048576) ∧ ∀ z, R (.bl true) z
theorem spLaw_un  {ds : List D} {z : Z} {R : D → Z → Prop} {E : PX} (h_ : spLaw ds z R E) : ∃ ns : List Int, ds = [.rol (ns.map .int)] ∧ (∀ x ∈ ns, x.natAbs.log2 ≤ 1048576) ∧ ∀ z, R (.bl true) z := by unfold spLaw at h_; exact h_
abbrev s_law : Stmt := (top 31)
abbrev law.N : List Str := ["_law_script", "_law_draws", "_law_turn_here", "_law_text", "_law_six", "_law_lay", "_law_same", "_law_due", "_law_number"]
abbrev law.ps : List Str := ["_law_script"]
theorem sc_law : FnScope law.N law.ps (defScope s_law) := ⟨rfl, rfl, rfl, by decide +kernel, rfl, by decide +kernel, by decide +kernel⟩
theorem ok_law (F : Fun K "law" "law" s_law f fd) (T : T52 mg) (O : Own K CL layNs) (GF : GridFn P w K mg base CG CB) (C_begin : Callee P w K mg base CX0 1 "_law_begin" s_begin begin.ps (lift K spBegin)) (C_next : Callee P w K mg base CX0 1 "_law_next" s_next next.ps (lift K spNext))
    (C_grid_text : Callee P w K mg base CX0 2 "_law_grid_text" s_grid_text grid_text.ps (lift K spGT)) (C_turn : Callee P w K mg base CX0 2 "_law_turn" s_turn turn.ps (lift K spTurn)) (C_whole : Callee P w K mg base CX0 2 "_law_whole" s_whole whole.ps (lift K spWhl))
    (C_made : Callee P w K mg base CX0 6 "_law_made" s_made made.ps (lift K (spMade CL CG))) (C_others : Callee P w K mg base CX0 6 "_law_others" s_others others.ps (lift K (spOthers CL CG))) (C_odd : Callee P w K mg base CX0 2 "_law_odd" s_odd odd.ps (lift K spOdd))
    (C_refused : Callee P w K mg base CX0 6 "_law_refused" s_refused refused.ps (lift K spRef52)) (C_equal_right : Callee P w K mg base CX0 6 "_law_equal_right" s_equal_right equal_right.ps (lift K (spEqR CL CG)))
    (C_Lay_repr : Method P w K mg base CX0 1 CL "__repr__" (dR s_Lay_repr "__repr__" "Lay.__repr__" K) Lay_repr.ps (lift K (spLyRepr CL CG))) : FnG P w K mg base CX0 7 f fd ["_law_script"] (lift K spLaw) := by
  obtain ⟨O_Grid, G_Grid, N_Grid, R_Grid, W_Grid, I_Grid, C_Grid, C_Grid_eq, C_Grid_len, C_Grid_str, C_Grid_repr, C_Grid_alphabet, C_Grid_cut, C_Grid_side⟩ := GF
  refine dbody F sc_law (fun ds z R RX h => ?_) fun cdv A outer s H E hr hg => ⟨_, (dss_cons (ds_set (i := 1) sc_law.nd rfl (Or.inl rfl) (C_begin.d0 rfl hr hg (atAll pass0) (das_cons (de_var 0) das_nil)))
      (dss_cons (ds_for PassesOwn.never rfl (di_range1 rfl T.b_range (da_cons (dp_of de_int) da_nil)) (dg_name (i := 2) sc_law.nd rfl (Or.inl rfl)) (dss_cons (ds_par (i := 3) (j := 4) rfl sc_law.nd rfl rfl (by decide) rfl rfl (das_cons (C_grid_text.d0 rfl hr hg (atAll pass0) (das_cons (de_var 1) das_nil)) (das_cons (C_turn.d0 rfl hr hg (atAll pass0) (das_cons (de_var 1) das_nil)) das_nil)) (by rfl))
      (dss_cons (ds_set (i := 4) sc_law.nd rfl (Or.inl rfl) (de_ix od_ix (dp_of (de_new (dn_lst (das_cons (de_var 4) (das_cons (de_tup (das_cons de_int (das_cons de_int (das_cons de_int das_nil)))) das_nil))))) (dp_of (de_ty cd_int (by rfl) T.b_int (by decide +kernel) (da_cons (dp_of (de_cmp (od_eq hr.units) (dp_of (C_next.d0 rfl hr hg (atAll pass0) (das_cons (de_var 1) (das_cons de_int das_nil)))) (dp_of de_int) (nomark _))) da_nil))) (fun _ _ => rfl)))
      (dss_cons (ds_set (i := 4) sc_law.nd rfl (Or.inl rfl) (de_op od_add (dp_var 4) (dp_of (de_ix od_ix (dp_of (de_new (dn_lst (das_cons (de_tup (das_cons (C_whole.d0 rfl hr hg (atAll pass0) (das_cons (de_var 1) das_nil)) (das_cons (C_whole.d0 rfl hr hg (atAll pass0) (das_cons (de_var 1) das_nil)) das_nil))) (das_cons (de_tup (das_cons de_int (das_cons de_int das_nil))) das_nil))))) (dp_of (de_ty cd_int (by rfl) T.b_int (by decide +kernel) (da_cons (dp_of (de_cmp (od_eq hr.units) (dp_of (C_next.d0 rfl hr hg (atAll pass0) (das_cons (de_var 1) (das_cons de_int das_nil)))) (dp_of de_int) (nomark _))) da_nil))) (fun _ _ => rfl)))))
      (dss_cons (ds_par (i := 5) (j := 6) rfl sc_law.nd rfl rfl (by decide) rfl rfl (das_cons (C_made.d0 rfl hr hg (atAll pass0) (das_cons (de_var 1) (das_cons (de_var 3) (das_cons (de_var 4) das_nil)))) (das_cons (C_made.d0 rfl hr hg (atAll pass0) (das_cons (de_var 1) (das_cons (de_var 3) (das_cons (de_var 4) das_nil)))) das_nil)) (by rfl))
      (dss_cons (ds_if (DWt.pt (dw_or (dt_cmp (od_ne hr.units) (dp_of (de_fn (cd_repr hg (room150 hr)) (by rfl) T.b_repr (by decide +kernel) (da_cons (dp_of (de_tup (das_cons (de_fldK (K := K) rfl (dp_var 5) rfl) (das_cons (de_fldK (K := K) rfl (dp_var 5) rfl) (das_cons (de_fldK (K := K) rfl (dp_var 5) rfl) (das_cons (de_fldK (K := K) rfl (dp_var 5) rfl) (das_cons (de_fldK (K := K) rfl (dp_var 5) rfl) das_nil))))))) da_nil))) (dp_of (de_fn (cd_repr hg (room150 hr)) (by rfl) T.b_repr (by decide +kernel) (da_cons (dp_var 4) da_nil))) (nomark _)) (dw_or1 (Method.tNeK (K := K) rfl C_Grid_eq N_Grid hr hg (de_fldK (K := K) rfl (dp_var 5) rfl) (C_Grid.d0 rfl hr hg (atAll passL) (das_cons (de_var 3) das_nil)))))) (dss_one (ds_ret de_bl)) dss_nil)
      (dss_cons (ds_set (i := 7) sc_law.nd rfl (Or.inl rfl) (de_op od_add (dp_of (de_op od_add (dp_of (de_op od_add (dp_of (de_op od_add (dp_of de_str) (dp_var 3))) (dp_of de_str))) (dp_of (de_mt PySem.F.slot_str_join PySem.F.type_str_join md_join (dp_of de_str) (da_cons (dp_of (de_new (dn_lc (own := [("_law_number", 8)]) rfl sc_law.nd (di_any (de_slice sd_sl (dp_var 4) do_none (do_some de_int))) (blkOk_by (N := law.N) (sc := defScope s_law) (by decide +kernel)) (fun _ _ _ _ _ => (dg_name (i := 8) sc_law.nd rfl (Or.inl rfl) (Or.inr rfl))) (fun _ _ _ _ _ => dts_nil) (fun _ _ _ _ _ => (de_ty cd_str (by rfl) T.b_str (by decide +kernel) (da_cons (dp_var 8) da_nil)))))) da_nil))))) (dp_of de_str)))
      (dss_cons (ds_if (dt_cmp (od_ne hr.units) (dp_of (C_Lay_repr.dRepr hr hg rfl T.b_repr (de_var 5))) (dp_of (de_op od_add (dp_of (de_op od_add (dp_of (de_op od_add (dp_of (de_op od_add (dp_var 7) (dp_of (de_ty cd_str (by rfl) T.b_str (by decide +kernel) (da_cons (dp_of (de_ix od_ix (dp_var 4) (dp_of de_int) (fun _ _ => rfl))) da_nil))))) (dp_of de_str))) (dp_of (de_ty cd_str (by rfl) T.b_str (by decide +kernel) (da_cons (dp_of (de_ix od_ix (dp_var 4) (dp_of de_int) (fun _ _ => rfl))) da_nil))))) (dp_of de_str))) (nomark _)) (dss_one (ds_ret de_bl)) dss_nil)
      (dss_cons (ds_if (dt_not (dt_truth (dp_of (C_equal_right.d0 rfl hr hg (atAll pass0) (das_cons (de_var 5) (das_cons (de_var 6) (das_cons (C_others.d0 rfl hr hg (atAll pass0) (das_cons (de_var 3) (das_cons (de_var 4) das_nil))) das_nil))))))) (dss_one (ds_ret de_bl)) dss_nil)
      (dss_one (ds_if (dt_not (dt_truth (dp_of (C_refused.d0 rfl hr hg (atAll pass0) (das_cons (de_var 3) (das_cons (C_odd.d0 rfl hr hg (atAll pass0) (das_cons (de_var 1) (das_cons (de_var 4) das_nil))) das_nil)))))) (dss_one (ds_ret de_bl)) dss_nil)))))))))))
      (dss_one (ds_ret de_bl)))), fun ds z R RX h => ?_⟩
  · obtain ⟨ns, rfl, _⟩ := spLaw_un h
    rfl
  · obtain ⟨ns, rfl, hns, k⟩ := spLaw_un h
    walk_at "d"
    refine spBegin_of ⟨ns, rfl, hns, fun p c0 hp hc0 => ?_⟩
    walk_at "d"
    refine ⟨by decide, by decide, ?_⟩
    refine forD_inv (fun i ρ z' => ∃ c' a2 a3 a4 a5 a6 a7 a8, ρ = [.val (.rol (ns.map .int)), .val (.adr p), a2, a3, a4, a5, a6, a7, a8] ∧ z' = z.put p c' ∧ PotC c') ⟨c0, _, _, _, _, _, _, _, rfl, rfl, hc0⟩ ?_ ?_
    · rintro i d ρ z' hdi ⟨c1, a2, a3, a4, a5, a6, a7, a8, rfl, rfl, hc1⟩
      walk_at "d"
      refine use_GT hc1 fun ws c2 hw hc2 => ?_
      refine use_turn hc2 fun a b c c3 Tu hc3 => ?_
      have g := hw.grid
      walk_at "d"
      refine use_next hc3 (by decide) (by decide) fun t1 c4 h10 h11 hc4 => ?_
      refine pick2 (Pd := fun d => ∃ a b c : Int, Turn a b c ∧ d = .tup [.int a, .int b, .int c]) ⟨a, b, c, Tu, rfl⟩ ⟨1, 0, 1, ⟨rfl, by decide, by decide, by decide, by decide⟩, rfl⟩ ?_
      rintro d ⟨a, b, c, Tu, rfl⟩
      walk_at "d"
      refine use_whl hc4 fun e0 c5 he0 hc5 => ?_
      refine use_whl hc5 fun n0 c6 hn0 hc6 => ?_
      refine use_next hc6 (by decide) (by decide) fun t2 c7 h20 h21 hc7 => ?_
      refine pick2 (Pd := fun d => ∃ e n : Int, e.natAbs < 2 ^ 140 ∧ n.natAbs < 2 ^ 140 ∧ d = .tup [.int e, .int n]) ⟨e0, n0, he0, hn0, rfl⟩ ⟨0, 0, by decide, by decide, rfl⟩ ?_
      rintro d ⟨e, n, he, hn, rfl⟩
      have six : Six a b c e n := ⟨Tu, he, hn⟩
      walk_at "d"
      refine spMade_of ⟨p, c7, z, ws, a, b, c, e, n, rfl, rfl, hc7, hw, six, fun c8 hc8 => ?_⟩
      refine spMade_of ⟨p, c8, z, ws, a, b, c, e, n, rfl, rfl, hc8, hw, six, fun c9 hc9 => ?_⟩
      obtain ⟨ba, bb, bc⟩ := Tu.bd
      have be : Bd 200 e := Nat.lt_of_lt_of_le he (by decide)
      have bn : Bd 200 n := Nat.lt_of_lt_of_le hn (by decide)
      have lg : ∀ i : Int, Bd 200 i → i.natAbs.log2 < 1920 := fun i h => log_small (k := 200) h (by decide) (by decide)
      have lgs : ∀ i ∈ [a, b, c, e, n], i.natAbs.log2 < 1920 := List.forall_mem_cons.mpr ⟨lg _ ba, List.forall_mem_cons.mpr ⟨lg _ bb, List.forall_mem_cons.mpr ⟨lg _ bc, List.forall_mem_cons.mpr ⟨lg _ be, List.forall_mem_cons.mpr ⟨lg _ bn, fun _ h => (by cases h)⟩⟩⟩⟩⟩
      let Q : LayX := ⟨textOf ws, signsAll ws, a, b, c, e, n⟩
      have okQ : LayX.Ok Q := ⟨g.len, ba, bb, bc, be, bn⟩
      simp only [fldL_grid O, fldL_a O, fldL_b O, fldL_c O, fldL_east O, fldL_north O]
      refine use_reprT (ns := [a, b, c, e, n]) lgs (by simp) ?_
      refine use_reprT (ns := [a, b, c, e, n]) lgs (by simp) ?_
      walk_at "d"
      refine use_Grid g ?_
      refine ⟨gridD_ins _ _ _, ⟨.ref CG, ⟨rfl, O_Grid.oty⟩, notFirst_self⟩, use_GEq g.len ?_⟩
      rw [decide_eq_true rfl]
      walk_at "d"
      have ec : cutL [D.int a, D.int b, D.int c, D.int e, D.int n] none (some 3) = [a, b, c].map .int := by
        rw [show (3 : Int) = ((3 : Nat) : Int) from rfl, cutL_take]
        rfl
      rw [ec]
      have ln : ∀ i : Int, Bd 200 i → (Str.ofString (toString i)).length ≤ 2000 := fun i h => Nat.le_trans (PyProof.Rows.int_text_len_1921 (lg i h)) (by decide)
      have l1 := ln a ba
      have l2 := ln b bb
      have l3 := ln c bc
      have l4 := ln e be
      have l5 := ln n bn
      have l0 : (S (textOf ws)).length ≤ 100000 := by rw [S_len]; exact g.len
      have k1 : (Str.ofString "Lay('").length = 5 := by decide +kernel
      have k2 : (Str.ofString "', ").length = 3 := by decide +kernel
      have k3 : (Str.ofString "/").length = 1 := by decide +kernel
      have k4 : (Str.ofString ", ").length = 2 := by decide +kernel
      have k5 : (Str.ofString ")").length = 1 := by decide +kernel
      have hz : 200000 ≤ sizeLine := by decide
      have lgi : ∀ i ∈ [a, b, c], Bd 200 i := List.forall_mem_cons.mpr ⟨ba, List.forall_mem_cons.mpr ⟨bb, List.forall_mem_cons.mpr ⟨bc, fun _ h => (by cases h)⟩⟩⟩
      refine ⟨by omega, by rw [cat_len]; omega, ?_⟩
      refine lcD_inv (fun m acc ρ z2 => acc = ([a, b, c].take m).map (fun x => D.str (Str.ofString (toString x))) ∧ ∃ b8, ρ = [.val (.rol (ns.map .int)), .val (.adr p), .val d, .val (.str (S (textOf ws))), .val (.tup [.int a, .int b, .int c, .int e, .int n]), .val (lyD CL CG Q), .val (lyD CL CG Q), a7, b8] ∧ z2 = z.put p c9) ⟨rfl, _, rfl, rfl⟩ ?_ ?_
      · rintro m d' acc ρ z2 hdm ⟨rfl, b8, rfl, rfl⟩
        rw [List.getElem?_map] at hdm
        obtain ⟨x, hx, rfl⟩ := Option.map_eq_some_iff.mp hdm
        have bx := lgi x (List.mem_of_getElem? hx)
        have hm := lt_of_get hx
        walk_at "d"
        refine ⟨by have := lg x bx; omega, ?_, ?_, _, rfl⟩
        · rw [List.length_map, List.length_take]
          exact Nat.lt_of_le_of_lt (show _ ≤ 3 from Nat.min_le_right _ _) (by decide)
        · rw [take_snoc hx, List.map_append]
          rfl
      · rintro acc ρ z2 ⟨rfl, b8, rfl, rfl⟩
        have hj : Txt.join (Str.ofString "/") [Str.ofString (toString a), Str.ofString (toString b), Str.ofString (toString c)] = Str.ofString (toString a) ++ Str.ofString "/" ++ Str.ofString (toString b) ++ Str.ofString "/" ++ Str.ofString (toString c) := by
          rw [← S_tl (Txt.join _ _), ← S_tl (Str.ofString (toString a) ++ _ ++ _ ++ _ ++ _)]
          first | done | rfl | (congr 1; show TL.tl (Str.join _ _) = TL.tl (_ ++ _ ++ _ ++ _ ++ _); rw [TL.tl_join, TL.tl_append, TL.tl_append, TL.tl_append, TL.tl_append]; simp [TL.joinL])
        have hQ : lyR Q = Str.ofString "Lay('" ++ S (textOf ws) ++ Str.ofString "', " ++ (Str.ofString (toString a) ++ Str.ofString "/" ++ Str.ofString (toString b) ++ Str.ofString "/" ++ Str.ofString (toString c)) ++ Str.ofString ", " ++ Str.ofString (toString e) ++ Str.ofString "/" ++ Str.ofString (toString n) ++ Str.ofString ")" := by
          have ext : ∀ x y : Str, TL.tl x = TL.tl y → x = y := fun x y h => by rw [← S_tl x, ← S_tl y]; exact congrArg S h
          refine ext _ _ ?_
          unfold lyR
          simp only [TL.tl_append, List.append_assoc]
          rfl
        walk_at "d"
        refine ⟨[Str.ofString (toString a), Str.ofString (toString b), Str.ofString (toString c)], rfl, ?_, ?_⟩
        · simp only [List.map_cons, List.map_nil, List.sum_cons, List.sum_nil, List.length_cons, List.length_nil]
          omega
        rw [hj]
        generalize hA : Str.ofString (toString a) = ia at *
        generalize hB : Str.ofString (toString b) = ib at *
        generalize hC : Str.ofString (toString c) = ic at *
        refine ⟨by simp only [cat_len]; omega, by simp only [cat_len]; omega, ⟨_, _, rfl⟩, spLyRepr_of ⟨Q, rfl, okQ, ?_⟩⟩
        walk_at "d"
        refine ⟨_, atI_nat (j := 3) rfl, ?_⟩
        walk_at "d"
        refine ⟨by have := lg e be; omega, by simp only [cat_len]; omega, by simp only [cat_len]; omega, _, atI_nat (j := 4) rfl, ?_⟩
        walk_at "d"
        refine ⟨by have := lg n bn; omega, by simp only [cat_len]; omega, by simp only [cat_len]; omega, ?_⟩
        rw [hQ, decide_eq_true rfl]
        walk_at "d"
        refine spOthers_of ⟨ws, a, b, c, e, n, rfl, hw, six, fun qs q1 q2 q3 => ?_⟩
        refine spEqR_of ⟨Q, qs, rfl, okQ, q1, q2, q3, ?_⟩
        walk_at "d"
        refine spOdd_of ⟨p, c9, z, a, b, c, e, n, rfl, rfl, hc9, six, fun c10 x y u hc10 fx fy fu bx by_ bu ht hs => ?_⟩
        refine spRef52_of ⟨ws, x, y, u, rfl, hw, fx, fy, fu, bx, by_, bu, ht, hs, ?_⟩
        walk_at "d"
        exact ⟨c10, _, _, _, _, _, _, _, rfl, rfl, hc10⟩
    · rintro ρ z' ⟨c1, a2, a3, a4, a5, a6, a7, a8, rfl, rfl, hc1⟩
      walk_at "d"
      exact k _
end

theorem law_asks {K : PySem.W.Frag} {H : Hp} {a : Addr} {ns : List Int} (hl : ns.length ≤ 63) (hb : ∀ x ∈ ns, x.natAbs.log2 ≤ 1048576) (hS : SqL K H a (ns.map V.int)) : lift K spLaw [.ref a] H (fun v _ => v = .bl true) fun _ _ _ => False :=
  law_d hS (by unfold spLaw; exact ⟨ns, rfl, hb, fun z => rfl⟩)

theorem bd_BadGrid_init {K : PySem.W.Frag} {f : Addr} {fd : FuncData} (F : Fun K "__init__" "BadGrid.__init__" s_BadGrid_init f fd) : Binds K fd BadGrid_init.ps [] :=
  F.binds fun _ _ _ _ _ _ us hl => match us, hl with | [_, _], _ => rfl
theorem bd_BadTurn_init {K : PySem.W.Frag} {f : Addr} {fd : FuncData} (F : Fun K "__init__" "BadTurn.__init__" s_BadTurn_init f fd) : Binds K fd BadTurn_init.ps [] :=
  F.binds fun _ _ _ _ _ _ us hl => match us, hl with | [_, _, _, _], _ => rfl
theorem bd_signs_by {K : PySem.W.Frag} {f : Addr} {fd : FuncData} (F : Fun K "signs_by" "signs_by" s_signs_by f fd) : Binds K fd signs_by.ps [] :=
  F.binds fun _ _ _ _ _ _ us hl => match us, hl with | [_], _ => rfl
theorem bd_Grid_init {K : PySem.W.Frag} {f : Addr} {fd : FuncData} (F : Fun K "__init__" "Grid.__init__" s_Grid_init f fd) : Binds K fd Grid_init.ps [] :=
  F.binds fun _ _ _ _ _ _ us hl => match us, hl with | [_, _], _ => rfl
theorem bd_Grid_eq {K : PySem.W.Frag} {f : Addr} {fd : FuncData} (F : Fun K "__eq__" "Grid.__eq__" s_Grid_eq f fd) : Binds K fd Grid_eq.ps [] :=
  F.binds fun _ _ _ _ _ _ us hl => match us, hl with | [_, _], _ => rfl
theorem bd_Grid_len {K : PySem.W.Frag} {f : Addr} {fd : FuncData} (F : Fun K "__len__" "Grid.__len__" s_Grid_len f fd) : Binds K fd Grid_len.ps [] :=
  F.binds fun _ _ _ _ _ _ us hl => match us, hl with | [_], _ => rfl
theorem bd_Grid_str {K : PySem.W.Frag} {f : Addr} {fd : FuncData} (F : Fun K "__str__" "Grid.__str__" s_Grid_str f fd) : Binds K fd Grid_str.ps [] :=
  F.binds fun _ _ _ _ _ _ us hl => match us, hl with | [_], _ => rfl
theorem bd_Grid_repr {K : PySem.W.Frag} {f : Addr} {fd : FuncData} (F : Fun K "__repr__" "Grid.__repr__" s_Grid_repr f fd) : Binds K fd Grid_repr.ps [] :=
  F.binds fun _ _ _ _ _ _ us hl => match us, hl with | [_], _ => rfl
theorem bd_Grid_alphabet {K : PySem.W.Frag} {f : Addr} {fd : FuncData} (F : Fun K "alphabet" "Grid.alphabet" s_Grid_alphabet f fd) : Binds K fd Grid_alphabet.ps [] :=
  F.binds fun _ _ _ _ _ _ us hl => match us, hl with | [_, _], _ => rfl
theorem bd_Grid_cut {K : PySem.W.Frag} {f : Addr} {fd : FuncData} (F : Fun K "cut" "Grid.cut" s_Grid_cut f fd) : Binds K fd Grid_cut.ps [] :=
  F.binds fun _ _ _ _ _ _ us hl => match us, hl with | [_, _], _ => rfl
theorem bd_is_whole {K : PySem.W.Frag} {f : Addr} {fd : FuncData} (F : Fun K "is_whole" "is_whole" s_is_whole f fd) : Binds K fd is_whole.ps [] :=
  F.binds fun _ _ _ _ _ _ us hl => match us, hl with | [_], _ => rfl
theorem bd_is_turn {K : PySem.W.Frag} {f : Addr} {fd : FuncData} (F : Fun K "is_turn" "is_turn" s_is_turn f fd) : Binds K fd is_turn.ps [] :=
  F.binds fun _ _ _ _ _ _ us hl => match us, hl with | [_, _, _], _ => rfl
theorem bd_Lay_init {K : PySem.W.Frag} {f : Addr} {fd : FuncData} {dvs : List V} (hd : dvs.length = 5) (F : FunD K "__init__" "Lay.__init__" (defArgs s_Lay_init) (defBody s_Lay_init) (defScope s_Lay_init) dvs [] f fd) : Binds K fd Lay_init.ps [] := by
  match dvs, hd with
  | [_, _, _, _, _], _ =>
    obtain ⟨ds, r, b⟩ := F.binds1 (ps := Lay_init.ps) 7 5 (List.cons_ne_nil _ _) rfl (fun T kV doc pm an cdv ct us its hl hi => match us, its, hl, hi with | [_, _, _, _, _, _, _], [_, _, _, _, _], _, _ => ⟨_, rfl, by rfl⟩)
    cases r
    exact b
theorem bd_begin {K : PySem.W.Frag} {f : Addr} {fd : FuncData} (F : Fun K "_law_begin" "_law_begin" s_begin f fd) : Binds K fd begin.ps [] :=
  F.binds fun _ _ _ _ _ _ us hl => match us, hl with | [_], _ => rfl
theorem bd_next {K : PySem.W.Frag} {f : Addr} {fd : FuncData} (F : Fun K "_law_next" "_law_next" s_next f fd) : Binds K fd next.ps [] :=
  F.binds fun _ _ _ _ _ _ us hl => match us, hl with | [_, _], _ => rfl
theorem bd_grid_text {K : PySem.W.Frag} {f : Addr} {fd : FuncData} (F : Fun K "_law_grid_text" "_law_grid_text" s_grid_text f fd) : Binds K fd grid_text.ps [] :=
  F.binds fun _ _ _ _ _ _ us hl => match us, hl with | [_], _ => rfl
theorem bd_whole {K : PySem.W.Frag} {f : Addr} {fd : FuncData} (F : Fun K "_law_whole" "_law_whole" s_whole f fd) : Binds K fd whole.ps [] :=
  F.binds fun _ _ _ _ _ _ us hl => match us, hl with | [_], _ => rfl
theorem bd_turn {K : PySem.W.Frag} {f : Addr} {fd : FuncData} (F : Fun K "_law_turn" "_law_turn" s_turn f fd) : Binds K fd turn.ps [] :=
  F.binds fun _ _ _ _ _ _ us hl => match us, hl with | [_], _ => rfl
theorem bd_Lay_eq {K : PySem.W.Frag} {f : Addr} {fd : FuncData} (F : Fun K "__eq__" "Lay.__eq__" s_Lay_eq f fd) : Binds K fd Lay_eq.ps [] :=
  F.binds fun _ _ _ _ _ _ us hl => match us, hl with | [_, _], _ => rfl
theorem bd_Lay_repr {K : PySem.W.Frag} {f : Addr} {fd : FuncData} (F : Fun K "__repr__" "Lay.__repr__" s_Lay_repr f fd) : Binds K fd Lay_repr.ps [] :=
  F.binds fun _ _ _ _ _ _ us hl => match us, hl with | [_], _ => rfl
theorem bd_made {K : PySem.W.Frag} {f : Addr} {fd : FuncData} (F : Fun K "_law_made" "_law_made" s_made f fd) : Binds K fd made.ps [] :=
  F.binds fun _ _ _ _ _ _ us hl => match us, hl with | [_, _, _], _ => rfl
theorem bd_others {K : PySem.W.Frag} {f : Addr} {fd : FuncData} (F : Fun K "_law_others" "_law_others" s_others f fd) : Binds K fd others.ps [] :=
  F.binds fun _ _ _ _ _ _ us hl => match us, hl with | [_, _], _ => rfl
theorem bd_odd {K : PySem.W.Frag} {f : Addr} {fd : FuncData} (F : Fun K "_law_odd" "_law_odd" s_odd f fd) : Binds K fd odd.ps [] :=
  F.binds fun _ _ _ _ _ _ us hl => match us, hl with | [_, _], _ => rfl
theorem bd_refused {K : PySem.W.Frag} {f : Addr} {fd : FuncData} (F : Fun K "_law_refused" "_law_refused" s_refused f fd) : Binds K fd refused.ps [] :=
  F.binds fun _ _ _ _ _ _ us hl => match us, hl with | [_, _], _ => rfl
theorem bd_equal_right {K : PySem.W.Frag} {f : Addr} {fd : FuncData} (F : Fun K "_law_equal_right" "_law_equal_right" s_equal_right f fd) : Binds K fd equal_right.ps [] :=
  F.binds fun _ _ _ _ _ _ us hl => match us, hl with | [_, _, _], _ => rfl
theorem all_mk {l : PySem.W.OpenLaw} {w : World} {K : PySem.W.Frag} {h : Heap} {mg : Str → Option Value} {fa : Addr} (X : K.In h) (G : h.Ns mainGlobals mg) (hfa : mg "law" = some (.ref fa))
    {CG CL CT CB CU CE AZ_BadSquare AZ_NoDeed AZ_NoRatio : Addr}
    {tg_LETTER_SIGNS : Tok}
    {tg_FIGURE_SIGNS : Tok}
    {tg_MOST_LEVELS : Tok}
    {tg_MOST_TURN : Tok}
    {nm_BadTurn q_BadTurn : Str} {N_BadTurn : Addr} {bs_BadTurn bm_BadTurn sub_BadTurn : List Value} {sn_BadTurn : List Str} {ab_BadTurn : Bool} {col_BadTurn : Option Bool} {dd_BadTurn : Option Addr} {m0_BadTurn m1_BadTurn m2_BadTurn m3_BadTurn m5_BadTurn : Option Value}
    {nm_BadGrid q_BadGrid : Str} {N_BadGrid : Addr} {bs_BadGrid bm_BadGrid sub_BadGrid : List Value} {sn_BadGrid : List Str} {ab_BadGrid : Bool} {col_BadGrid : Option Bool} {dd_BadGrid : Option Addr} {m0_BadGrid m1_BadGrid m2_BadGrid m3_BadGrid m5_BadGrid : Option Value}
    {f_BadGrid_init : Addr} {oc_BadGrid_init kV_BadGrid_init dc_BadGrid_init pm_BadGrid_init cd_BadGrid_init ct_BadGrid_init : Value} {od_BadGrid_init an_BadGrid_init : Option Addr} {sl_BadGrid_init : Array (Option Value)}
    {f_BadTurn_init : Addr} {oc_BadTurn_init kV_BadTurn_init dc_BadTurn_init pm_BadTurn_init cd_BadTurn_init ct_BadTurn_init : Value} {od_BadTurn_init an_BadTurn_init : Option Addr} {sl_BadTurn_init : Array (Option Value)}
    {f_signs_by : Addr} {oc_signs_by kV_signs_by dc_signs_by pm_signs_by cd_signs_by ct_signs_by : Value} {od_signs_by an_signs_by : Option Addr} {sl_signs_by : Array (Option Value)}
    {f_Grid_init : Addr} {oc_Grid_init kV_Grid_init dc_Grid_init pm_Grid_init cd_Grid_init ct_Grid_init : Value} {od_Grid_init an_Grid_init : Option Addr} {sl_Grid_init : Array (Option Value)}
    {f_Grid_eq : Addr} {oc_Grid_eq kV_Grid_eq dc_Grid_eq pm_Grid_eq cd_Grid_eq ct_Grid_eq : Value} {od_Grid_eq an_Grid_eq : Option Addr} {sl_Grid_eq : Array (Option Value)}
    {f_Grid_len : Addr} {oc_Grid_len kV_Grid_len dc_Grid_len pm_Grid_len cd_Grid_len ct_Grid_len : Value} {od_Grid_len an_Grid_len : Option Addr} {sl_Grid_len : Array (Option Value)}
    {f_Grid_str : Addr} {oc_Grid_str kV_Grid_str dc_Grid_str pm_Grid_str cd_Grid_str ct_Grid_str : Value} {od_Grid_str an_Grid_str : Option Addr} {sl_Grid_str : Array (Option Value)}
    {f_Grid_repr : Addr} {oc_Grid_repr kV_Grid_repr dc_Grid_repr pm_Grid_repr cd_Grid_repr ct_Grid_repr : Value} {od_Grid_repr an_Grid_repr : Option Addr} {sl_Grid_repr : Array (Option Value)}
    {f_Grid_alphabet : Addr} {oc_Grid_alphabet kV_Grid_alphabet dc_Grid_alphabet pm_Grid_alphabet cd_Grid_alphabet ct_Grid_alphabet : Value} {od_Grid_alphabet an_Grid_alphabet : Option Addr} {sl_Grid_alphabet : Array (Option Value)}
    {f_Grid_cut : Addr} {oc_Grid_cut kV_Grid_cut dc_Grid_cut pm_Grid_cut cd_Grid_cut ct_Grid_cut : Value} {od_Grid_cut an_Grid_cut : Option Addr} {sl_Grid_cut : Array (Option Value)}
    {f_is_whole : Addr} {oc_is_whole kV_is_whole dc_is_whole pm_is_whole cd_is_whole ct_is_whole : Value} {od_is_whole an_is_whole : Option Addr} {sl_is_whole : Array (Option Value)}
    {f_is_turn : Addr} {oc_is_turn kV_is_turn dc_is_turn pm_is_turn cd_is_turn ct_is_turn : Value} {od_is_turn an_is_turn : Option Addr} {sl_is_turn : Array (Option Value)}
    {f_Lay_init : Addr} {oc_Lay_init kV_Lay_init dc_Lay_init pm_Lay_init cd_Lay_init ct_Lay_init : Value} {od_Lay_init an_Lay_init : Option Addr} {sl_Lay_init : Array (Option Value)}
    {T_Lay_init nT_Lay_init : Nat} {oT_Lay_init : Value} {odT_Lay_init : Option Addr} {slT_Lay_init : Array (Option Value)} {tk_Lay_init_0 : Tok} {tk_Lay_init_1 : Tok} {tk_Lay_init_2 : Tok} {tk_Lay_init_3 : Tok} {tk_Lay_init_4 : Tok}
    {f_begin : Addr} {oc_begin kV_begin dc_begin pm_begin cd_begin ct_begin : Value} {od_begin an_begin : Option Addr} {sl_begin : Array (Option Value)}
    {f_next : Addr} {oc_next kV_next dc_next pm_next cd_next ct_next : Value} {od_next an_next : Option Addr} {sl_next : Array (Option Value)}
    {f_grid_text : Addr} {oc_grid_text kV_grid_text dc_grid_text pm_grid_text cd_grid_text ct_grid_text : Value} {od_grid_text an_grid_text : Option Addr} {sl_grid_text : Array (Option Value)}
    {f_whole : Addr} {oc_whole kV_whole dc_whole pm_whole cd_whole ct_whole : Value} {od_whole an_whole : Option Addr} {sl_whole : Array (Option Value)}
    {f_turn : Addr} {oc_turn kV_turn dc_turn pm_turn cd_turn ct_turn : Value} {od_turn an_turn : Option Addr} {sl_turn : Array (Option Value)}
    {f_Lay_eq : Addr} {oc_Lay_eq kV_Lay_eq dc_Lay_eq pm_Lay_eq cd_Lay_eq ct_Lay_eq : Value} {od_Lay_eq an_Lay_eq : Option Addr} {sl_Lay_eq : Array (Option Value)}
    {f_Lay_repr : Addr} {oc_Lay_repr kV_Lay_repr dc_Lay_repr pm_Lay_repr cd_Lay_repr ct_Lay_repr : Value} {od_Lay_repr an_Lay_repr : Option Addr} {sl_Lay_repr : Array (Option Value)}
    {f_made : Addr} {oc_made kV_made dc_made pm_made cd_made ct_made : Value} {od_made an_made : Option Addr} {sl_made : Array (Option Value)}
    {f_others : Addr} {oc_others kV_others dc_others pm_others cd_others ct_others : Value} {od_others an_others : Option Addr} {sl_others : Array (Option Value)}
    {f_odd : Addr} {oc_odd kV_odd dc_odd pm_odd cd_odd ct_odd : Value} {od_odd an_odd : Option Addr} {sl_odd : Array (Option Value)}
    {f_refused : Addr} {oc_refused kV_refused dc_refused pm_refused cd_refused ct_refused : Value} {od_refused an_refused : Option Addr} {sl_refused : Array (Option Value)}
    {f_equal_right : Addr} {oc_equal_right kV_equal_right dc_equal_right pm_equal_right cd_equal_right ct_equal_right : Value} {od_equal_right an_equal_right : Option Addr} {sl_equal_right : Array (Option Value)}
    {f_law : Addr} {oc_law kV_law dc_law pm_law cd_law ct_law : Value} {od_law an_law : Option Addr} {sl_law : Array (Option Value)}
    (g_LETTER_SIGNS : PySem.W.nsIn K mainGlobals "LETTER_SIGNS" = some (some (.str "ABCDEFGHJKLMNPQRSTUVWXYZ" tg_LETTER_SIGNS)))
    (g_FIGURE_SIGNS : PySem.W.nsIn K mainGlobals "FIGURE_SIGNS" = some (some (.str "0123456789" tg_FIGURE_SIGNS)))
    (g_MOST_LEVELS : PySem.W.nsIn K mainGlobals "MOST_LEVELS" = some (some (.int 5 tg_MOST_LEVELS)))
    (g_MOST_TURN : PySem.W.nsIn K mainGlobals "MOST_TURN" = some (some (.int 100 tg_MOST_TURN)))
    (aC_Grid : PySem.W.nsIn K mainGlobals "Grid" = some (some (.ref CG)))
    (pg_Grid : PySem.W.plainGet K CG Str.empty = true)
    (hd_Grid : PySem.W.hasDictIn K CG = true)
    (po_Grid : PySem.W.plainOver K CG = true)
    (sa_Grid : PySem.W.findIn K (.ref CG) "__setattr__" = some (some (.builtin "object.__setattr__")))
    (n_Grid_text : PySem.W.findIn K (.ref CG) "text" = some none)
    (n_Grid_alphabets : PySem.W.findIn K (.ref CG) "alphabets" = some none)
    (ha_Grid : PySem.W.findIn K (.ref CG) "__class__" = some (some (.builtin "object.__class__")))
    (hn_Grid : PySem.W.specialIn K (.builtin "object.__class__") "__get__" = some (some (.builtin "getset_descriptor.__get__")))
    (ht_Grid : PySem.W.takesIn K (.builtin "object.__class__") = some true)
    (hm_Grid : PySem.W.mroIn K CG (.type "object") = some true)
    (ne_Grid : PySem.W.findIn K (.ref CG) "__ne__" = some (some (.builtin "object.__ne__")))
    (rf_Grid_str : PySem.W.subIn K (.ref CG) (.type "str") = some false)
    (rf_Grid_int : PySem.W.subIn K (.ref CG) (.type "int") = some false)
    (rf_Grid_bool : PySem.W.subIn K (.ref CG) (.type "bool") = some false)
    (rf_Grid_NoneType : PySem.W.subIn K (.ref CG) (.type "NoneType") = some false)
    (rf_Grid_tuple : PySem.W.subIn K (.ref CG) (.type "tuple") = some false)
    (rf_Grid_list : PySem.W.subIn K (.ref CG) (.type "list") = some false)
    (fo_Grid : PySem.W.findIn K (.ref CG) "__format__" = some (some (.builtin "object.__format__")))
    (ic_Grid : PySem.W.isClsIn K CG = true)
    (ty_Grid : PySem.W.typeIn K (.ref CG) = some (.type "type"))
    (aC_Lay : PySem.W.nsIn K mainGlobals "Lay" = some (some (.ref CL)))
    (pg_Lay : PySem.W.plainGet K CL Str.empty = true)
    (hd_Lay : PySem.W.hasDictIn K CL = true)
    (po_Lay : PySem.W.plainOver K CL = true)
    (sa_Lay : PySem.W.findIn K (.ref CL) "__setattr__" = some (some (.builtin "object.__setattr__")))
    (n_Lay_grid : PySem.W.findIn K (.ref CL) "grid" = some none)
    (n_Lay_a : PySem.W.findIn K (.ref CL) "a" = some none)
    (n_Lay_b : PySem.W.findIn K (.ref CL) "b" = some none)
    (n_Lay_c : PySem.W.findIn K (.ref CL) "c" = some none)
    (n_Lay_east : PySem.W.findIn K (.ref CL) "east" = some none)
    (n_Lay_north : PySem.W.findIn K (.ref CL) "north" = some none)
    (ha_Lay : PySem.W.findIn K (.ref CL) "__class__" = some (some (.builtin "object.__class__")))
    (hn_Lay : PySem.W.specialIn K (.builtin "object.__class__") "__get__" = some (some (.builtin "getset_descriptor.__get__")))
    (ht_Lay : PySem.W.takesIn K (.builtin "object.__class__") = some true)
    (hm_Lay : PySem.W.mroIn K CL (.type "object") = some true)
    (ne_Lay : PySem.W.findIn K (.ref CL) "__ne__" = some (some (.builtin "object.__ne__")))
    (rf_Lay_str : PySem.W.subIn K (.ref CL) (.type "str") = some false)
    (rf_Lay_int : PySem.W.subIn K (.ref CL) (.type "int") = some false)
    (rf_Lay_bool : PySem.W.subIn K (.ref CL) (.type "bool") = some false)
    (rf_Lay_NoneType : PySem.W.subIn K (.ref CL) (.type "NoneType") = some false)
    (rf_Lay_tuple : PySem.W.subIn K (.ref CL) (.type "tuple") = some false)
    (rf_Lay_list : PySem.W.subIn K (.ref CL) (.type "list") = some false)
    (fo_Lay : PySem.W.findIn K (.ref CL) "__format__" = some (some (.builtin "object.__format__")))
    (ic_Lay : PySem.W.isClsIn K CL = true)
    (ty_Lay : PySem.W.typeIn K (.ref CL) = some (.type "type"))
    (aX_BadTurn : PySem.W.nsIn K mainGlobals "BadTurn" = some (some (.ref CT)))
    (xL_BadTurn : K.lookup CT = some (excClassObj nm_BadTurn q_BadTurn CT N_BadTurn bs_BadTurn bm_BadTurn true sn_BadTurn sub_BadTurn ab_BadTurn col_BadTurn dd_BadTurn m0_BadTurn m1_BadTurn m2_BadTurn m3_BadTurn m5_BadTurn "ValueError.__new__"))
    (vX_BadTurn : PySem.HandSPX.refsVE bm_BadTurn = true)
    (sx_BadTurn : PySem.W.findIn K (.ref CT) "__setattr__" = some (some (.builtin "object.__setattr__")))
    (ga_BadTurn : PySem.W.findIn K (.ref CT) "__getattribute__" = some (some (.builtin "BaseException.__getattribute__")))
    (gg_BadTurn : PySem.W.findIn K (.ref CT) "__getattr__" = some none)
    (n_BadTurn_a : PySem.W.findIn K (.ref CT) "a" = some none)
    (n_BadTurn_b : PySem.W.findIn K (.ref CT) "b" = some none)
    (n_BadTurn_c : PySem.W.findIn K (.ref CT) "c" = some none)
    (kX_BadTurn : PySem.W.keepIn K (.ref CT) = true)
    (eX_BadTurn : PySem.W.subIn K (.ref CT) (.type "BaseException") = some true)
    (tX_BadTurn : PySem.W.typeIn K (.ref CT) = some (.type "type"))
    (hX_BadTurn : PySem.W.hasDictIn K CT = true)
    (iX_BadTurn : PySem.W.isClsIn K CT = true)
    (sX_BadTurn : PySem.W.subIn K (.ref CT) (.ref CT) = some true)
    (aX_BadGrid : PySem.W.nsIn K mainGlobals "BadGrid" = some (some (.ref CB)))
    (xL_BadGrid : K.lookup CB = some (excClassObj nm_BadGrid q_BadGrid CB N_BadGrid bs_BadGrid bm_BadGrid true sn_BadGrid sub_BadGrid ab_BadGrid col_BadGrid dd_BadGrid m0_BadGrid m1_BadGrid m2_BadGrid m3_BadGrid m5_BadGrid "ValueError.__new__"))
    (vX_BadGrid : PySem.HandSPX.refsVE bm_BadGrid = true)
    (sx_BadGrid : PySem.W.findIn K (.ref CB) "__setattr__" = some (some (.builtin "object.__setattr__")))
    (ga_BadGrid : PySem.W.findIn K (.ref CB) "__getattribute__" = some (some (.builtin "BaseException.__getattribute__")))
    (gg_BadGrid : PySem.W.findIn K (.ref CB) "__getattr__" = some none)
    (n_BadGrid_at : PySem.W.findIn K (.ref CB) "at" = some none)
    (kX_BadGrid : PySem.W.keepIn K (.ref CB) = true)
    (eX_BadGrid : PySem.W.subIn K (.ref CB) (.type "BaseException") = some true)
    (tX_BadGrid : PySem.W.typeIn K (.ref CB) = some (.type "type"))
    (hX_BadGrid : PySem.W.hasDictIn K CB = true)
    (iX_BadGrid : PySem.W.isClsIn K CB = true)
    (sX_BadGrid : PySem.W.subIn K (.ref CB) (.ref CB) = some true)
    (aX_Unlike : PySem.W.nsIn K mainGlobals "Unlike" = some (some (.ref CU)))
    (qX_Unlike : PySem.W.excIn K CU [.type "ValueError", .type "Exception", .type "BaseException", .type "object"] "ValueError.__new__" = true)
    (kX_Unlike : PySem.W.keepIn K (.ref CU) = true)
    (eX_Unlike : PySem.W.subIn K (.ref CU) (.type "BaseException") = some true)
    (tX_Unlike : PySem.W.typeIn K (.ref CU) = some (.type "type"))
    (iX_Unlike : PySem.W.isClsIn K CU = true)
    (sX_Unlike : PySem.W.subIn K (.ref CU) (.ref CU) = some true)
    (aG_GridError : PySem.W.nsIn K mainGlobals "GridError" = some (some (.ref CE)))
    (sg_GridError : PySem.W.specialIn K (.ref CE) "__getattribute__" = some (some (.builtin "type.__getattribute__")))
    (rd_GridError : PySem.W.readsIn K CE (.type "type") = true)
    (vV_GridError : PySem.W.findCls K (.ref CE) (.type "type") "__init__" = some (.val (.builtin "ValueError.__init__")))
    (a_BadGrid_init : PySem.W.findIn K (.ref CB) "__init__" = some (some (.ref f_BadGrid_init)))
    (t_BadGrid_init : PySem.W.typeIn K (.ref f_BadGrid_init) = some (.type "function"))
    (lu_BadGrid_init : K.lookup f_BadGrid_init = some ⟨oc_BadGrid_init, od_BadGrid_init, .func (PySem.W.fnOf "__init__" "BadGrid.__init__" (defArgs s_BadGrid_init) (defBody s_BadGrid_init) (defScope s_BadGrid_init) .none kV_BadGrid_init dc_BadGrid_init pm_BadGrid_init an_BadGrid_init cd_BadGrid_init ct_BadGrid_init), sl_BadGrid_init⟩)
    (c_BadGrid_init : PySem.W.codeIn K cd_BadGrid_init "BadGrid.__init__" = true)
    (k_BadGrid_init : PySem.W.keepIn K (.ref f_BadGrid_init) = true)
    (a_BadTurn_init : PySem.W.findIn K (.ref CT) "__init__" = some (some (.ref f_BadTurn_init)))
    (t_BadTurn_init : PySem.W.typeIn K (.ref f_BadTurn_init) = some (.type "function"))
    (lu_BadTurn_init : K.lookup f_BadTurn_init = some ⟨oc_BadTurn_init, od_BadTurn_init, .func (PySem.W.fnOf "__init__" "BadTurn.__init__" (defArgs s_BadTurn_init) (defBody s_BadTurn_init) (defScope s_BadTurn_init) .none kV_BadTurn_init dc_BadTurn_init pm_BadTurn_init an_BadTurn_init cd_BadTurn_init ct_BadTurn_init), sl_BadTurn_init⟩)
    (c_BadTurn_init : PySem.W.codeIn K cd_BadTurn_init "BadTurn.__init__" = true)
    (k_BadTurn_init : PySem.W.keepIn K (.ref f_BadTurn_init) = true)
    (a_signs_by : PySem.W.nsIn K mainGlobals "signs_by" = some (some (.ref f_signs_by)))
    (lu_signs_by : K.lookup f_signs_by = some ⟨oc_signs_by, od_signs_by, .func (PySem.W.fnOf "signs_by" "signs_by" (defArgs s_signs_by) (defBody s_signs_by) (defScope s_signs_by) .none kV_signs_by dc_signs_by pm_signs_by an_signs_by cd_signs_by ct_signs_by), sl_signs_by⟩)
    (c_signs_by : PySem.W.codeIn K cd_signs_by "signs_by" = true)
    (k_signs_by : PySem.W.keepIn K (.ref f_signs_by) = true)
    (a_Grid_init : PySem.W.findIn K (.ref CG) "__init__" = some (some (.ref f_Grid_init)))
    (i_Grid_init : PySem.W.isFn K (.ref f_Grid_init) = true)
    (mk_Grid : PySem.W.makesIn K CG = true)
    (kc_Grid : PySem.W.keepIn K (.ref CG) = true)
    (lu_Grid_init : K.lookup f_Grid_init = some ⟨oc_Grid_init, od_Grid_init, .func (PySem.W.fnOf "__init__" "Grid.__init__" (defArgs s_Grid_init) (defBody s_Grid_init) (defScope s_Grid_init) .none kV_Grid_init dc_Grid_init pm_Grid_init an_Grid_init cd_Grid_init ct_Grid_init), sl_Grid_init⟩)
    (c_Grid_init : PySem.W.codeIn K cd_Grid_init "Grid.__init__" = true)
    (k_Grid_init : PySem.W.keepIn K (.ref f_Grid_init) = true)
    (a_Grid_eq : PySem.W.findIn K (.ref CG) "__eq__" = some (some (.ref f_Grid_eq)))
    (i_Grid_eq : PySem.W.isFn K (.ref f_Grid_eq) = true)
    (lu_Grid_eq : K.lookup f_Grid_eq = some ⟨oc_Grid_eq, od_Grid_eq, .func (PySem.W.fnOf "__eq__" "Grid.__eq__" (defArgs s_Grid_eq) (defBody s_Grid_eq) (defScope s_Grid_eq) .none kV_Grid_eq dc_Grid_eq pm_Grid_eq an_Grid_eq cd_Grid_eq ct_Grid_eq), sl_Grid_eq⟩)
    (c_Grid_eq : PySem.W.codeIn K cd_Grid_eq "Grid.__eq__" = true)
    (k_Grid_eq : PySem.W.keepIn K (.ref f_Grid_eq) = true)
    (a_Grid_len : PySem.W.findIn K (.ref CG) "__len__" = some (some (.ref f_Grid_len)))
    (i_Grid_len : PySem.W.isFn K (.ref f_Grid_len) = true)
    (lu_Grid_len : K.lookup f_Grid_len = some ⟨oc_Grid_len, od_Grid_len, .func (PySem.W.fnOf "__len__" "Grid.__len__" (defArgs s_Grid_len) (defBody s_Grid_len) (defScope s_Grid_len) .none kV_Grid_len dc_Grid_len pm_Grid_len an_Grid_len cd_Grid_len ct_Grid_len), sl_Grid_len⟩)
    (c_Grid_len : PySem.W.codeIn K cd_Grid_len "Grid.__len__" = true)
    (k_Grid_len : PySem.W.keepIn K (.ref f_Grid_len) = true)
    (a_Grid_str : PySem.W.findIn K (.ref CG) "__str__" = some (some (.ref f_Grid_str)))
    (i_Grid_str : PySem.W.isFn K (.ref f_Grid_str) = true)
    (lu_Grid_str : K.lookup f_Grid_str = some ⟨oc_Grid_str, od_Grid_str, .func (PySem.W.fnOf "__str__" "Grid.__str__" (defArgs s_Grid_str) (defBody s_Grid_str) (defScope s_Grid_str) .none kV_Grid_str dc_Grid_str pm_Grid_str an_Grid_str cd_Grid_str ct_Grid_str), sl_Grid_str⟩)
    (c_Grid_str : PySem.W.codeIn K cd_Grid_str "Grid.__str__" = true)
    (k_Grid_str : PySem.W.keepIn K (.ref f_Grid_str) = true)
    (a_Grid_repr : PySem.W.findIn K (.ref CG) "__repr__" = some (some (.ref f_Grid_repr)))
    (i_Grid_repr : PySem.W.isFn K (.ref f_Grid_repr) = true)
    (lu_Grid_repr : K.lookup f_Grid_repr = some ⟨oc_Grid_repr, od_Grid_repr, .func (PySem.W.fnOf "__repr__" "Grid.__repr__" (defArgs s_Grid_repr) (defBody s_Grid_repr) (defScope s_Grid_repr) .none kV_Grid_repr dc_Grid_repr pm_Grid_repr an_Grid_repr cd_Grid_repr ct_Grid_repr), sl_Grid_repr⟩)
    (c_Grid_repr : PySem.W.codeIn K cd_Grid_repr "Grid.__repr__" = true)
    (k_Grid_repr : PySem.W.keepIn K (.ref f_Grid_repr) = true)
    (a_Grid_alphabet : PySem.W.findIn K (.ref CG) "alphabet" = some (some (.ref f_Grid_alphabet)))
    (i_Grid_alphabet : PySem.W.isFn K (.ref f_Grid_alphabet) = true)
    (lu_Grid_alphabet : K.lookup f_Grid_alphabet = some ⟨oc_Grid_alphabet, od_Grid_alphabet, .func (PySem.W.fnOf "alphabet" "Grid.alphabet" (defArgs s_Grid_alphabet) (defBody s_Grid_alphabet) (defScope s_Grid_alphabet) .none kV_Grid_alphabet dc_Grid_alphabet pm_Grid_alphabet an_Grid_alphabet cd_Grid_alphabet ct_Grid_alphabet), sl_Grid_alphabet⟩)
    (c_Grid_alphabet : PySem.W.codeIn K cd_Grid_alphabet "Grid.alphabet" = true)
    (k_Grid_alphabet : PySem.W.keepIn K (.ref f_Grid_alphabet) = true)
    (a_Grid_cut : PySem.W.findIn K (.ref CG) "cut" = some (some (.ref f_Grid_cut)))
    (i_Grid_cut : PySem.W.isFn K (.ref f_Grid_cut) = true)
    (lu_Grid_cut : K.lookup f_Grid_cut = some ⟨oc_Grid_cut, od_Grid_cut, .func (PySem.W.fnOf "cut" "Grid.cut" (defArgs s_Grid_cut) (defBody s_Grid_cut) (defScope s_Grid_cut) .none kV_Grid_cut dc_Grid_cut pm_Grid_cut an_Grid_cut cd_Grid_cut ct_Grid_cut), sl_Grid_cut⟩)
    (c_Grid_cut : PySem.W.codeIn K cd_Grid_cut "Grid.cut" = true)
    (k_Grid_cut : PySem.W.keepIn K (.ref f_Grid_cut) = true)
    (a_is_whole : PySem.W.nsIn K mainGlobals "is_whole" = some (some (.ref f_is_whole)))
    (lu_is_whole : K.lookup f_is_whole = some ⟨oc_is_whole, od_is_whole, .func (PySem.W.fnOf "is_whole" "is_whole" (defArgs s_is_whole) (defBody s_is_whole) (defScope s_is_whole) .none kV_is_whole dc_is_whole pm_is_whole an_is_whole cd_is_whole ct_is_whole), sl_is_whole⟩)
    (c_is_whole : PySem.W.codeIn K cd_is_whole "is_whole" = true)
    (k_is_whole : PySem.W.keepIn K (.ref f_is_whole) = true)
    (a_is_turn : PySem.W.nsIn K mainGlobals "is_turn" = some (some (.ref f_is_turn)))
    (lu_is_turn : K.lookup f_is_turn = some ⟨oc_is_turn, od_is_turn, .func (PySem.W.fnOf "is_turn" "is_turn" (defArgs s_is_turn) (defBody s_is_turn) (defScope s_is_turn) .none kV_is_turn dc_is_turn pm_is_turn an_is_turn cd_is_turn ct_is_turn), sl_is_turn⟩)
    (c_is_turn : PySem.W.codeIn K cd_is_turn "is_turn" = true)
    (k_is_turn : PySem.W.keepIn K (.ref f_is_turn) = true)
    (a_Lay_init : PySem.W.findIn K (.ref CL) "__init__" = some (some (.ref f_Lay_init)))
    (i_Lay_init : PySem.W.isFn K (.ref f_Lay_init) = true)
    (mk_Lay : PySem.W.makesIn K CL = true)
    (kc_Lay : PySem.W.keepIn K (.ref CL) = true)
    (lu_Lay_init : K.lookup f_Lay_init = some ⟨oc_Lay_init, od_Lay_init, .func (PySem.W.fnOf "__init__" "Lay.__init__" (defArgs s_Lay_init) (defBody s_Lay_init) (defScope s_Lay_init) (.ref T_Lay_init) kV_Lay_init dc_Lay_init pm_Lay_init an_Lay_init cd_Lay_init ct_Lay_init), sl_Lay_init⟩)
    (lT_Lay_init : K.lookup T_Lay_init = some ⟨oT_Lay_init, odT_Lay_init, .seq #[.int 1 tk_Lay_init_0, .int 0 tk_Lay_init_1, .int 1 tk_Lay_init_2, .int 0 tk_Lay_init_3, .int 0 tk_Lay_init_4] nT_Lay_init, slT_Lay_init⟩)
    (c_Lay_init : PySem.W.codeIn K cd_Lay_init "Lay.__init__" = true)
    (k_Lay_init : PySem.W.keepIn K (.ref f_Lay_init) = true)
    (a_begin : PySem.W.nsIn K mainGlobals "_law_begin" = some (some (.ref f_begin)))
    (lu_begin : K.lookup f_begin = some ⟨oc_begin, od_begin, .func (PySem.W.fnOf "_law_begin" "_law_begin" (defArgs s_begin) (defBody s_begin) (defScope s_begin) .none kV_begin dc_begin pm_begin an_begin cd_begin ct_begin), sl_begin⟩)
    (c_begin : PySem.W.codeIn K cd_begin "_law_begin" = true)
    (k_begin : PySem.W.keepIn K (.ref f_begin) = true)
    (a_next : PySem.W.nsIn K mainGlobals "_law_next" = some (some (.ref f_next)))
    (lu_next : K.lookup f_next = some ⟨oc_next, od_next, .func (PySem.W.fnOf "_law_next" "_law_next" (defArgs s_next) (defBody s_next) (defScope s_next) .none kV_next dc_next pm_next an_next cd_next ct_next), sl_next⟩)
    (c_next : PySem.W.codeIn K cd_next "_law_next" = true)
    (k_next : PySem.W.keepIn K (.ref f_next) = true)
    (a_grid_text : PySem.W.nsIn K mainGlobals "_law_grid_text" = some (some (.ref f_grid_text)))
    (lu_grid_text : K.lookup f_grid_text = some ⟨oc_grid_text, od_grid_text, .func (PySem.W.fnOf "_law_grid_text" "_law_grid_text" (defArgs s_grid_text) (defBody s_grid_text) (defScope s_grid_text) .none kV_grid_text dc_grid_text pm_grid_text an_grid_text cd_grid_text ct_grid_text), sl_grid_text⟩)
    (c_grid_text : PySem.W.codeIn K cd_grid_text "_law_grid_text" = true)
    (k_grid_text : PySem.W.keepIn K (.ref f_grid_text) = true)
    (a_whole : PySem.W.nsIn K mainGlobals "_law_whole" = some (some (.ref f_whole)))
    (lu_whole : K.lookup f_whole = some ⟨oc_whole, od_whole, .func (PySem.W.fnOf "_law_whole" "_law_whole" (defArgs s_whole) (defBody s_whole) (defScope s_whole) .none kV_whole dc_whole pm_whole an_whole cd_whole ct_whole), sl_whole⟩)
    (c_whole : PySem.W.codeIn K cd_whole "_law_whole" = true)
    (k_whole : PySem.W.keepIn K (.ref f_whole) = true)
    (a_turn : PySem.W.nsIn K mainGlobals "_law_turn" = some (some (.ref f_turn)))
    (lu_turn : K.lookup f_turn = some ⟨oc_turn, od_turn, .func (PySem.W.fnOf "_law_turn" "_law_turn" (defArgs s_turn) (defBody s_turn) (defScope s_turn) .none kV_turn dc_turn pm_turn an_turn cd_turn ct_turn), sl_turn⟩)
    (c_turn : PySem.W.codeIn K cd_turn "_law_turn" = true)
    (k_turn : PySem.W.keepIn K (.ref f_turn) = true)
    (zg_GridError : PySem.W.nsIn K mainGlobals "GridError" = some (some (.ref CE)))
    (zi_GridError : PySem.W.isClsIn K CE = true)
    (zt_GridError : PySem.W.typeIn K (.ref CE) = some (.type "type"))
    (zg_BadTurn : PySem.W.nsIn K mainGlobals "BadTurn" = some (some (.ref CT)))
    (zi_BadTurn : PySem.W.isClsIn K CT = true)
    (zt_BadTurn : PySem.W.typeIn K (.ref CT) = some (.type "type"))
    (zg_BadGrid : PySem.W.nsIn K mainGlobals "BadGrid" = some (some (.ref CB)))
    (zi_BadGrid : PySem.W.isClsIn K CB = true)
    (zt_BadGrid : PySem.W.typeIn K (.ref CB) = some (.type "type"))
    (zg_BadSquare : PySem.W.nsIn K mainGlobals "BadSquare" = some (some (.ref AZ_BadSquare)))
    (zi_BadSquare : PySem.W.isClsIn K AZ_BadSquare = true)
    (zt_BadSquare : PySem.W.typeIn K (.ref AZ_BadSquare) = some (.type "type"))
    (zg_NoDeed : PySem.W.nsIn K mainGlobals "NoDeed" = some (some (.ref AZ_NoDeed)))
    (zi_NoDeed : PySem.W.isClsIn K AZ_NoDeed = true)
    (zt_NoDeed : PySem.W.typeIn K (.ref AZ_NoDeed) = some (.type "type"))
    (zg_NoRatio : PySem.W.nsIn K mainGlobals "NoRatio" = some (some (.ref AZ_NoRatio)))
    (zi_NoRatio : PySem.W.isClsIn K AZ_NoRatio = true)
    (zt_NoRatio : PySem.W.typeIn K (.ref AZ_NoRatio) = some (.type "type"))
    (zg_Unlike : PySem.W.nsIn K mainGlobals "Unlike" = some (some (.ref CU)))
    (zi_Unlike : PySem.W.isClsIn K CU = true)
    (zt_Unlike : PySem.W.typeIn K (.ref CU) = some (.type "type"))
    (zb_GridError : PySem.W.subIn K (.ref CE) (.type "BaseException") = some true)
    (y1_BadTurn : PySem.W.findIn K (.ref CT) "__getattribute__" = some (some (.builtin "BaseException.__getattribute__")))
    (y2_BadTurn : PySem.W.findIn K (.ref CT) "__getattr__" = some none)
    (y3_BadTurn : PySem.W.subIn K (.ref CT) (.type "BaseException") = some true)
    (y4_BadTurn : PySem.W.hasDictIn K CT = true)
    (y5_BadTurn : PySem.W.findIn K (.ref CT) "__class__" = some (some (.builtin "object.__class__")))
    (y6_BadTurn : PySem.W.specialIn K (.builtin "object.__class__") "__get__" = some (some (.builtin "getset_descriptor.__get__")))
    (y7_BadTurn : PySem.W.takesIn K (.builtin "object.__class__") = some true)
    (y8_BadTurn : PySem.W.mroIn K CT (.type "object") = some true)
    (zo_BadTurn : PySem.W.subIn K (.ref CT) (.ref CT) = some true)
    (zv_BadTurn : PySem.W.subIn K (.ref CT) (.type "ValueError") = some true)
    (zs_BadTurn : PySem.W.subIn K (.ref CT) (.ref CE) = some true)
    (zn_BadTurn_BadGrid : PySem.W.subIn K (.ref CT) (.ref CB) = some false)
    (zn_BadTurn_BadSquare : PySem.W.subIn K (.ref CT) (.ref AZ_BadSquare) = some false)
    (zn_BadTurn_NoDeed : PySem.W.subIn K (.ref CT) (.ref AZ_NoDeed) = some false)
    (zn_BadTurn_NoRatio : PySem.W.subIn K (.ref CT) (.ref AZ_NoRatio) = some false)
    (zn_BadTurn_Unlike : PySem.W.subIn K (.ref CT) (.ref CU) = some false)
    (hkL : PySem.W.kitOne K (.ref CG) (.ref CL) = some false)
    (hnL : PySem.W.notFirst K CL (.ref CG) = true)
    (a_Lay_eq : PySem.W.findIn K (.ref CL) "__eq__" = some (some (.ref f_Lay_eq)))
    (i_Lay_eq : PySem.W.isFn K (.ref f_Lay_eq) = true)
    (lu_Lay_eq : K.lookup f_Lay_eq = some ⟨oc_Lay_eq, od_Lay_eq, .func (PySem.W.fnOf "__eq__" "Lay.__eq__" (defArgs s_Lay_eq) (defBody s_Lay_eq) (defScope s_Lay_eq) .none kV_Lay_eq dc_Lay_eq pm_Lay_eq an_Lay_eq cd_Lay_eq ct_Lay_eq), sl_Lay_eq⟩)
    (c_Lay_eq : PySem.W.codeIn K cd_Lay_eq "Lay.__eq__" = true)
    (k_Lay_eq : PySem.W.keepIn K (.ref f_Lay_eq) = true)
    (a_Lay_repr : PySem.W.findIn K (.ref CL) "__repr__" = some (some (.ref f_Lay_repr)))
    (i_Lay_repr : PySem.W.isFn K (.ref f_Lay_repr) = true)
    (lu_Lay_repr : K.lookup f_Lay_repr = some ⟨oc_Lay_repr, od_Lay_repr, .func (PySem.W.fnOf "__repr__" "Lay.__repr__" (defArgs s_Lay_repr) (defBody s_Lay_repr) (defScope s_Lay_repr) .none kV_Lay_repr dc_Lay_repr pm_Lay_repr an_Lay_repr cd_Lay_repr ct_Lay_repr), sl_Lay_repr⟩)
    (c_Lay_repr : PySem.W.codeIn K cd_Lay_repr "Lay.__repr__" = true)
    (k_Lay_repr : PySem.W.keepIn K (.ref f_Lay_repr) = true)
    (a_made : PySem.W.nsIn K mainGlobals "_law_made" = some (some (.ref f_made)))
    (lu_made : K.lookup f_made = some ⟨oc_made, od_made, .func (PySem.W.fnOf "_law_made" "_law_made" (defArgs s_made) (defBody s_made) (defScope s_made) .none kV_made dc_made pm_made an_made cd_made ct_made), sl_made⟩)
    (c_made : PySem.W.codeIn K cd_made "_law_made" = true)
    (k_made : PySem.W.keepIn K (.ref f_made) = true)
    (a_others : PySem.W.nsIn K mainGlobals "_law_others" = some (some (.ref f_others)))
    (lu_others : K.lookup f_others = some ⟨oc_others, od_others, .func (PySem.W.fnOf "_law_others" "_law_others" (defArgs s_others) (defBody s_others) (defScope s_others) .none kV_others dc_others pm_others an_others cd_others ct_others), sl_others⟩)
    (c_others : PySem.W.codeIn K cd_others "_law_others" = true)
    (k_others : PySem.W.keepIn K (.ref f_others) = true)
    (a_odd : PySem.W.nsIn K mainGlobals "_law_odd" = some (some (.ref f_odd)))
    (lu_odd : K.lookup f_odd = some ⟨oc_odd, od_odd, .func (PySem.W.fnOf "_law_odd" "_law_odd" (defArgs s_odd) (defBody s_odd) (defScope s_odd) .none kV_odd dc_odd pm_odd an_odd cd_odd ct_odd), sl_odd⟩)
    (c_odd : PySem.W.codeIn K cd_odd "_law_odd" = true)
    (k_odd : PySem.W.keepIn K (.ref f_odd) = true)
    (a_refused : PySem.W.nsIn K mainGlobals "_law_refused" = some (some (.ref f_refused)))
    (lu_refused : K.lookup f_refused = some ⟨oc_refused, od_refused, .func (PySem.W.fnOf "_law_refused" "_law_refused" (defArgs s_refused) (defBody s_refused) (defScope s_refused) .none kV_refused dc_refused pm_refused an_refused cd_refused ct_refused), sl_refused⟩)
    (c_refused : PySem.W.codeIn K cd_refused "_law_refused" = true)
    (k_refused : PySem.W.keepIn K (.ref f_refused) = true)
    (a_equal_right : PySem.W.nsIn K mainGlobals "_law_equal_right" = some (some (.ref f_equal_right)))
    (lu_equal_right : K.lookup f_equal_right = some ⟨oc_equal_right, od_equal_right, .func (PySem.W.fnOf "_law_equal_right" "_law_equal_right" (defArgs s_equal_right) (defBody s_equal_right) (defScope s_equal_right) .none kV_equal_right dc_equal_right pm_equal_right an_equal_right cd_equal_right ct_equal_right), sl_equal_right⟩)
    (c_equal_right : PySem.W.codeIn K cd_equal_right "_law_equal_right" = true)
    (k_equal_right : PySem.W.keepIn K (.ref f_equal_right) = true)
    (a_law : PySem.W.nsIn K mainGlobals "law" = some (some (.ref f_law)))
    (lu_law : K.lookup f_law = some ⟨oc_law, od_law, .func (PySem.W.fnOf "law" "law" (defArgs s_law) (defBody s_law) (defScope s_law) .none kV_law dc_law pm_law an_law cd_law ct_law), sl_law⟩)
    (c_law : PySem.W.codeIn K cd_law "law" = true)
    (k_law : PySem.W.keepIn K (.ref f_law) = true)
    (z_len : PySem.W.nsIn K mainGlobals "len" = some none)
    (z_abs : PySem.W.nsIn K mainGlobals "abs" = some none)
    (z_range : PySem.W.nsIn K mainGlobals "range" = some none)
    (z_int : PySem.W.nsIn K mainGlobals "int" = some none)
    (z_str : PySem.W.nsIn K mainGlobals "str" = some none)
    (z_repr : PySem.W.nsIn K mainGlobals "repr" = some none)
    (z_isinstance : PySem.W.nsIn K mainGlobals "isinstance" = some none)
    (z_tuple : PySem.W.nsIn K mainGlobals "tuple" = some none)
    (z_enumerate : PySem.W.nsIn K mainGlobals "enumerate" = some none)
    (z_min : PySem.W.nsIn K mainGlobals "min" = some none)
    (z_any : PySem.W.nsIn K mainGlobals "any" = some none)
    (z_all : PySem.W.nsIn K mainGlobals "all" = some none)
    (z_max : PySem.W.nsIn K mainGlobals "max" = some none)
    (z_bool : PySem.W.nsIn K mainGlobals "bool" = some none)
    (z_zip : PySem.W.nsIn K mainGlobals "zip" = some none)
    (z_reversed : PySem.W.nsIn K mainGlobals "reversed" = some none)
    (z_list : PySem.W.nsIn K mainGlobals "list" = some none)
    (z_sum : PySem.W.nsIn K mainGlobals "sum" = some none)
    (z_sorted : PySem.W.nsIn K mainGlobals "sorted" = some none)
    (z_set : PySem.W.nsIn K mainGlobals "set" = some none)
    (z_dict : PySem.W.nsIn K mainGlobals "dict" = some none)
    (z_ValueError : PySem.W.nsIn K mainGlobals "ValueError" = some none)
    : ∃ fd : FuncData, (∀ (s : Shared) (v : Value), BindsTo s fd ⟨[v], []⟩ [("_law_script", v)]) ∧ ∀ base : Heap, K.In base → base.Ns mainGlobals mg → FnG l.prog w K mg base CX0 7 fa fd ["_law_script"] (lift K spLaw) := by
  have e := hfa.symm.trans (PySem.W.mg_of X G a_law)
  cases e
  have T : T52 mg := ⟨PySem.W.mg_none_of X G z_len, PySem.W.mg_none_of X G z_abs, PySem.W.mg_none_of X G z_range, PySem.W.mg_none_of X G z_int, PySem.W.mg_none_of X G z_str, PySem.W.mg_none_of X G z_repr, PySem.W.mg_none_of X G z_isinstance, PySem.W.mg_none_of X G z_tuple, PySem.W.mg_none_of X G z_enumerate, PySem.W.mg_none_of X G z_min, PySem.W.mg_none_of X G z_any, PySem.W.mg_none_of X G z_all, PySem.W.mg_none_of X G z_max, PySem.W.mg_none_of X G z_bool, PySem.W.mg_none_of X G z_zip, PySem.W.mg_none_of X G z_reversed, PySem.W.mg_none_of X G z_list, PySem.W.mg_none_of X G z_sum, PySem.W.mg_none_of X G z_sorted, PySem.W.mg_none_of X G z_set, PySem.W.mg_none_of X G z_dict, PySem.W.mg_none_of X G z_ValueError, ⟨_, PySem.W.mg_of X G g_LETTER_SIGNS⟩, ⟨_, PySem.W.mg_of X G g_FIGURE_SIGNS⟩, ⟨_, PySem.W.mg_of X G g_MOST_LEVELS⟩, ⟨_, PySem.W.mg_of X G g_MOST_TURN⟩⟩
  have O_Grid : Own K CG ["text", "alphabets"] := ⟨⟨pg_Grid, hd_Grid, po_Grid, sa_Grid⟩, fun f hf => by simp only [List.mem_cons, List.not_mem_nil, or_false] at hf; rcases hf with rfl | rfl <;> assumption, ha_Grid, hn_Grid, ht_Grid, hm_Grid⟩
  have G_Grid := PySem.W.mg_of X G aC_Grid
  have N_Grid : NoNe K CG := ⟨ne_Grid, hm_Grid⟩
  have R_Grid : Refl K CG := ⟨rf_Grid_str, rf_Grid_int, rf_Grid_bool, rf_Grid_NoneType, rf_Grid_tuple, rf_Grid_list⟩
  have W_Grid : Fmt K CG := ⟨fo_Grid, hm_Grid⟩
  have I_Grid : IsC K CG := ⟨ic_Grid, ty_Grid⟩
  have O_Lay : Own K CL ["grid", "a", "b", "c", "east", "north"] := ⟨⟨pg_Lay, hd_Lay, po_Lay, sa_Lay⟩, fun f hf => by simp only [List.mem_cons, List.not_mem_nil, or_false] at hf; rcases hf with rfl | rfl | rfl | rfl | rfl | rfl <;> assumption, ha_Lay, hn_Lay, ht_Lay, hm_Lay⟩
  have G_Lay := PySem.W.mg_of X G aC_Lay
  have N_Lay : NoNe K CL := ⟨ne_Lay, hm_Lay⟩
  have R_Lay : Refl K CL := ⟨rf_Lay_str, rf_Lay_int, rf_Lay_bool, rf_Lay_NoneType, rf_Lay_tuple, rf_Lay_list⟩
  have W_Lay : Fmt K CL := ⟨fo_Lay, hm_Lay⟩
  have I_Lay : IsC K CL := ⟨ic_Lay, ty_Lay⟩
  have E_BadTurn : OexC K CT := ⟨⟨_, _, _, _, _, _, _, _, _, _, _, _, _, _, _, xL_BadTurn, vX_BadTurn⟩, sx_BadTurn, eX_BadTurn, tX_BadTurn, kX_BadTurn⟩
  have E_BadGrid : OexC K CB := ⟨⟨_, _, _, _, _, _, _, _, _, _, _, _, _, _, _, xL_BadGrid, vX_BadGrid⟩, sx_BadGrid, eX_BadGrid, tX_BadGrid, kX_BadGrid⟩
  have Y_Unlike : ExcUn K mg "Unlike" CU := ⟨qX_Unlike, PySem.W.mg_of X G aX_Unlike, kX_Unlike, eX_Unlike, tX_Unlike, exm_own eX_Unlike iX_Unlike tX_Unlike sX_Unlike⟩
  have B_GridError : GBase K mg "GridError" CE := ⟨PySem.W.mg_of X G aG_GridError, sg_GridError, rd_GridError, vV_GridError⟩
  have F_BadGrid_init := fun_mk (st := s_BadGrid_init) lu_BadGrid_init c_BadGrid_init k_BadGrid_init
  have F_BadTurn_init := fun_mk (st := s_BadTurn_init) lu_BadTurn_init c_BadTurn_init k_BadTurn_init
  have F_signs_by := fun_mk (st := s_signs_by) lu_signs_by c_signs_by k_signs_by
  have F_Grid_init := fun_mk (st := s_Grid_init) lu_Grid_init c_Grid_init k_Grid_init
  have F_Grid_eq := fun_mk (st := s_Grid_eq) lu_Grid_eq c_Grid_eq k_Grid_eq
  have F_Grid_len := fun_mk (st := s_Grid_len) lu_Grid_len c_Grid_len k_Grid_len
  have F_Grid_str := fun_mk (st := s_Grid_str) lu_Grid_str c_Grid_str k_Grid_str
  have F_Grid_repr := fun_mk (st := s_Grid_repr) lu_Grid_repr c_Grid_repr k_Grid_repr
  have F_Grid_alphabet := fun_mk (st := s_Grid_alphabet) lu_Grid_alphabet c_Grid_alphabet k_Grid_alphabet
  have F_Grid_cut := fun_mk (st := s_Grid_cut) lu_Grid_cut c_Grid_cut k_Grid_cut
  have F_is_whole := fun_mk (st := s_is_whole) lu_is_whole c_is_whole k_is_whole
  have F_is_turn := fun_mk (st := s_is_turn) lu_is_turn c_is_turn k_is_turn
  have F_Lay_init : FunD K "__init__" "Lay.__init__" (defArgs s_Lay_init) (defBody s_Lay_init) (defScope s_Lay_init) [.int 1, .int 0, .int 1, .int 0, .int 0] [] f_Lay_init _ := ⟨⟨_, _, _, _, _, _, _, _, _, _, rfl, lu_Lay_init, c_Lay_init, .inr ⟨List.cons_ne_nil _ _, T_Lay_init, _, [.int 1 tk_Lay_init_0, .int 0 tk_Lay_init_1, .int 1 tk_Lay_init_2, .int 0 tk_Lay_init_3, .int 0 tk_Lay_init_4], nT_Lay_init, rfl, lT_Lay_init, rfl, .cons ⟨_, rfl⟩ (.cons ⟨_, rfl⟩ (.cons ⟨_, rfl⟩ (.cons ⟨_, rfl⟩ (.cons ⟨_, rfl⟩ (.nil)))))⟩, .inl rfl⟩, k_Lay_init⟩
  have F_begin := fun_mk (st := s_begin) lu_begin c_begin k_begin
  have F_next := fun_mk (st := s_next) lu_next c_next k_next
  have F_grid_text := fun_mk (st := s_grid_text) lu_grid_text c_grid_text k_grid_text
  have F_whole := fun_mk (st := s_whole) lu_whole c_whole k_whole
  have F_turn := fun_mk (st := s_turn) lu_turn c_turn k_turn
  have Z_GridError : Err1 K mg "GridError" CE := ⟨PySem.W.mg_of X G zg_GridError, ⟨zi_GridError, zt_GridError⟩⟩
  have Z_BadTurn : Err1 K mg "BadTurn" CT := ⟨PySem.W.mg_of X G zg_BadTurn, ⟨zi_BadTurn, zt_BadTurn⟩⟩
  have Z_BadGrid : Err1 K mg "BadGrid" CB := ⟨PySem.W.mg_of X G zg_BadGrid, ⟨zi_BadGrid, zt_BadGrid⟩⟩
  have Z_BadSquare : Err1 K mg "BadSquare" AZ_BadSquare := ⟨PySem.W.mg_of X G zg_BadSquare, ⟨zi_BadSquare, zt_BadSquare⟩⟩
  have Z_NoDeed : Err1 K mg "NoDeed" AZ_NoDeed := ⟨PySem.W.mg_of X G zg_NoDeed, ⟨zi_NoDeed, zt_NoDeed⟩⟩
  have Z_NoRatio : Err1 K mg "NoRatio" AZ_NoRatio := ⟨PySem.W.mg_of X G zg_NoRatio, ⟨zi_NoRatio, zt_NoRatio⟩⟩
  have Z_Unlike : Err1 K mg "Unlike" CU := ⟨PySem.W.mg_of X G zg_Unlike, ⟨zi_Unlike, zt_Unlike⟩⟩
  have ZK_BadTurn : ErrK K CE CT [CB, AZ_BadSquare, AZ_NoDeed, AZ_NoRatio, CU] := ⟨⟨y1_BadTurn, y2_BadTurn, y3_BadTurn, y4_BadTurn, y5_BadTurn, y6_BadTurn, y7_BadTurn, y8_BadTurn⟩, zo_BadTurn, zv_BadTurn, zs_BadTurn, zb_GridError, Z_GridError.c, List.forall_mem_cons.mpr ⟨⟨Z_BadGrid.c, zn_BadTurn_BadGrid⟩, List.forall_mem_cons.mpr ⟨⟨Z_BadSquare.c, zn_BadTurn_BadSquare⟩, List.forall_mem_cons.mpr ⟨⟨Z_NoDeed.c, zn_BadTurn_NoDeed⟩, List.forall_mem_cons.mpr ⟨⟨Z_NoRatio.c, zn_BadTurn_NoRatio⟩, List.forall_mem_cons.mpr ⟨⟨Z_Unlike.c, zn_BadTurn_Unlike⟩, fun _ h => nomatch h⟩⟩⟩⟩⟩⟩
  have F_Lay_eq := fun_mk (st := s_Lay_eq) lu_Lay_eq c_Lay_eq k_Lay_eq
  have F_Lay_repr := fun_mk (st := s_Lay_repr) lu_Lay_repr c_Lay_repr k_Lay_repr
  have F_made := fun_mk (st := s_made) lu_made c_made k_made
  have F_others := fun_mk (st := s_others) lu_others c_others k_others
  have F_odd := fun_mk (st := s_odd) lu_odd c_odd k_odd
  have F_refused := fun_mk (st := s_refused) lu_refused c_refused k_refused
  have F_equal_right := fun_mk (st := s_equal_right) lu_equal_right c_equal_right k_equal_right
  have F_law := fun_mk (st := s_law) lu_law c_law k_law
  refine ⟨PySem.W.fnOf "law" "law" (defArgs s_law) (defBody s_law) (defScope s_law) .none kV_law dc_law pm_law an_law cd_law ct_law, fun s v => .of_eq rfl, fun base hb hn => ?_⟩
  have X_BadGrid : ExcOk l.prog w K mg base "BadGrid" CB ["at"] BadGrid_init.ps := ⟨E_BadGrid, ⟨ga_BadGrid, gg_BadGrid, eX_BadGrid, hX_BadGrid⟩, exm_own eX_BadGrid iX_BadGrid tX_BadGrid sX_BadGrid, fun f hf => by simp only [List.mem_cons, List.not_mem_nil, or_false] at hf; rcases hf with rfl <;> assumption, PySem.W.mg_of X G aX_BadGrid, ⟨_, _, a_BadGrid_init, t_BadGrid_init, bd_BadGrid_init F_BadGrid_init, ok_BadGrid_init F_BadGrid_init E_BadGrid n_BadGrid_at B_GridError⟩⟩
  have X_BadTurn : ExcOk l.prog w K mg base "BadTurn" CT ["a", "b", "c"] BadTurn_init.ps := ⟨E_BadTurn, ⟨ga_BadTurn, gg_BadTurn, eX_BadTurn, hX_BadTurn⟩, exm_own eX_BadTurn iX_BadTurn tX_BadTurn sX_BadTurn, fun f hf => by simp only [List.mem_cons, List.not_mem_nil, or_false] at hf; rcases hf with rfl | rfl | rfl <;> assumption, PySem.W.mg_of X G aX_BadTurn, ⟨_, _, a_BadTurn_init, t_BadTurn_init, bd_BadTurn_init F_BadTurn_init, ok_BadTurn_init F_BadTurn_init E_BadTurn n_BadTurn_a n_BadTurn_b n_BadTurn_c B_GridError⟩⟩
  have C_signs_by : Callee l.prog w K mg base CX0 1 "signs_by" s_signs_by signs_by.ps (lift K spSigns) := ⟨_, _, PySem.W.mg_of X G a_signs_by, F_signs_by, bd_signs_by F_signs_by, ok_signs_by F_signs_by T⟩
  have C_Grid : Maker l.prog w K mg base (L2.CX l.prog w) 3 "Grid" CG (dR s_Grid_init "__init__" "Grid.__init__" K) Grid_init.ps (liftI K CG (spGrid K CB)) := ⟨_, _, PySem.W.mg_of X G aC_Grid, ⟨mk_Grid, a_Grid_init, i_Grid_init, kc_Grid⟩, F_Grid_init, bd_Grid_init F_Grid_init, ok_Grid_init F_Grid_init O_Grid X_BadGrid T C_signs_by⟩
  have C_Grid_eq : Method l.prog w K mg base CX0 1 CG "__eq__" (dR s_Grid_eq "__eq__" "Grid.__eq__" K) Grid_eq.ps (lift K (spGEq K CG)) := ⟨_, _, O_Grid.cl, ⟨a_Grid_eq, i_Grid_eq, k_Grid_eq⟩, F_Grid_eq, bd_Grid_eq F_Grid_eq, ok_Grid_eq F_Grid_eq O_Grid T G_Grid⟩
  have C_Grid_len : Method l.prog w K mg base CX0 1 CG "__len__" (dR s_Grid_len "__len__" "Grid.__len__" K) Grid_len.ps (lift K (spGLen CG)) := ⟨_, _, O_Grid.cl, ⟨a_Grid_len, i_Grid_len, k_Grid_len⟩, F_Grid_len, bd_Grid_len F_Grid_len, ok_Grid_len F_Grid_len O_Grid T⟩
  have C_Grid_str : Method l.prog w K mg base CX0 1 CG "__str__" (dR s_Grid_str "__str__" "Grid.__str__" K) Grid_str.ps (lift K (spGStr CG)) := ⟨_, _, O_Grid.cl, ⟨a_Grid_str, i_Grid_str, k_Grid_str⟩, F_Grid_str, bd_Grid_str F_Grid_str, ok_Grid_str F_Grid_str O_Grid T⟩
  have C_Grid_repr : Method l.prog w K mg base CX0 1 CG "__repr__" (dR s_Grid_repr "__repr__" "Grid.__repr__" K) Grid_repr.ps (lift K (spGRepr CG)) := ⟨_, _, O_Grid.cl, ⟨a_Grid_repr, i_Grid_repr, k_Grid_repr⟩, F_Grid_repr, bd_Grid_repr F_Grid_repr, ok_Grid_repr F_Grid_repr O_Grid T⟩
  have C_Grid_alphabet : Method l.prog w K mg base CX0 1 CG "alphabet" (dR s_Grid_alphabet "alphabet" "Grid.alphabet" K) Grid_alphabet.ps (lift K (spAlphabet CG)) := ⟨_, _, O_Grid.cl, ⟨a_Grid_alphabet, i_Grid_alphabet, k_Grid_alphabet⟩, F_Grid_alphabet, bd_Grid_alphabet F_Grid_alphabet, ok_Grid_alphabet F_Grid_alphabet O_Grid⟩
  have C_Grid_cut : Method l.prog w K mg base CX0 2 CG "cut" (dR s_Grid_cut "cut" "Grid.cut" K) Grid_cut.ps (lift K (spCut CG)) := ⟨_, _, O_Grid.cl, ⟨a_Grid_cut, i_Grid_cut, k_Grid_cut⟩, F_Grid_cut, bd_Grid_cut F_Grid_cut, ok_Grid_cut F_Grid_cut O_Grid T C_Grid_alphabet⟩
  have GF : GridFn l.prog w K mg base CG CB := ⟨O_Grid, G_Grid, N_Grid, R_Grid, W_Grid, I_Grid, C_Grid, C_Grid_eq, C_Grid_len, C_Grid_str, C_Grid_repr, C_Grid_alphabet, C_Grid_cut, trivial⟩
  have C_is_whole : Callee l.prog w K mg base CX0 1 "is_whole" s_is_whole is_whole.ps (lift K spWholeP) := ⟨_, _, PySem.W.mg_of X G a_is_whole, F_is_whole, bd_is_whole F_is_whole, ok_is_wholeP F_is_whole T⟩
  have C_is_turn : Callee l.prog w K mg base CX0 2 "is_turn" s_is_turn is_turn.ps (lift K spTurnP) := ⟨_, _, PySem.W.mg_of X G a_is_turn, F_is_turn, bd_is_turn F_is_turn, ok_is_turn F_is_turn T C_is_whole⟩
  have C_Lay : Maker l.prog w K mg base (L2.CX l.prog w) 3 "Lay" CL (fun f fd => FunD K "__init__" "Lay.__init__" (defArgs s_Lay_init) (defBody s_Lay_init) (defScope s_Lay_init) [.int 1, .int 0, .int 1, .int 0, .int 0] [] f fd) Lay_init.ps (liftI K CL (spLayI CT)) := ⟨_, _, PySem.W.mg_of X G aC_Lay, ⟨mk_Lay, a_Lay_init, i_Lay_init, kc_Lay⟩, F_Lay_init, bd_Lay_init rfl F_Lay_init, ok_Lay_init F_Lay_init O_Lay X_BadTurn T C_is_turn⟩
  have C_begin : Callee l.prog w K mg base CX0 1 "_law_begin" s_begin begin.ps (lift K spBegin) := ⟨_, _, PySem.W.mg_of X G a_begin, F_begin, bd_begin F_begin, ok_begin F_begin T⟩
  have C_next : Callee l.prog w K mg base CX0 1 "_law_next" s_next next.ps (lift K spNext) := ⟨_, _, PySem.W.mg_of X G a_next, F_next, bd_next F_next, ok_next F_next T⟩
  have C_grid_text : Callee l.prog w K mg base CX0 2 "_law_grid_text" s_grid_text grid_text.ps (lift K spGT) := ⟨_, _, PySem.W.mg_of X G a_grid_text, F_grid_text, bd_grid_text F_grid_text, ok_grid_text F_grid_text T C_next⟩
  have C_whole : Callee l.prog w K mg base CX0 2 "_law_whole" s_whole whole.ps (lift K spWhl) := ⟨_, _, PySem.W.mg_of X G a_whole, F_whole, bd_whole F_whole, ok_whole F_whole T C_next⟩
  have C_turn : Callee l.prog w K mg base CX0 2 "_law_turn" s_turn turn.ps (lift K spTurn) := ⟨_, _, PySem.W.mg_of X G a_turn, F_turn, bd_turn F_turn, ok_turn F_turn T C_next⟩
  have C_Lay_eq : Method l.prog w K mg base CX0 3 CL "__eq__" (dR s_Lay_eq "__eq__" "Lay.__eq__" K) Lay_eq.ps (lift K (spLyEq K CL CG)) := ⟨_, _, O_Lay.cl, ⟨a_Lay_eq, i_Lay_eq, k_Lay_eq⟩, F_Lay_eq, bd_Lay_eq F_Lay_eq, ok_Lay_eq F_Lay_eq O_Lay T G_Lay GF⟩
  have C_Lay_repr : Method l.prog w K mg base CX0 1 CL "__repr__" (dR s_Lay_repr "__repr__" "Lay.__repr__" K) Lay_repr.ps (lift K (spLyRepr CL CG)) := ⟨_, _, O_Lay.cl, ⟨a_Lay_repr, i_Lay_repr, k_Lay_repr⟩, F_Lay_repr, bd_Lay_repr F_Lay_repr, ok_Lay_repr F_Lay_repr O_Lay T GF⟩
  have C_made : Callee l.prog w K mg base CX0 6 "_law_made" s_made made.ps (lift K (spMade CL CG)) := ⟨_, _, PySem.W.mg_of X G a_made, F_made, bd_made F_made, ok_made F_made T GF C_next C_Lay⟩
  have C_others : Callee l.prog w K mg base CX0 6 "_law_others" s_others others.ps (lift K (spOthers CL CG)) := ⟨_, _, PySem.W.mg_of X G a_others, F_others, bd_others F_others, ok_others F_others T GF C_Lay⟩
  have C_odd : Callee l.prog w K mg base CX0 2 "_law_odd" s_odd odd.ps (lift K spOdd) := ⟨_, _, PySem.W.mg_of X G a_odd, F_odd, bd_odd F_odd, ok_odd F_odd T C_next⟩
  have C_refused : Callee l.prog w K mg base CX0 6 "_law_refused" s_refused refused.ps (lift K spRef52) := ⟨_, _, PySem.W.mg_of X G a_refused, F_refused, bd_refused F_refused, ok_ref52 F_refused T GF Z_GridError Z_BadTurn Z_BadGrid Z_BadSquare Z_NoDeed Z_NoRatio Z_Unlike ZK_BadTurn (by simp) (by simp) (by simp) (by simp) (by simp) X_BadTurn C_Lay⟩
  have C_equal_right : Callee l.prog w K mg base CX0 6 "_law_equal_right" s_equal_right equal_right.ps (lift K (spEqR CL CG)) := ⟨_, _, PySem.W.mg_of X G a_equal_right, F_equal_right, bd_equal_right F_equal_right, ok_equal_right F_equal_right T O_Lay N_Lay I_Lay hkL hnL GF C_Lay_eq⟩
  exact ok_law F_law T O_Lay GF C_begin C_next C_grid_text C_turn C_whole C_made C_others C_odd C_refused C_equal_right C_Lay_repr
end K52
open PySem PySem.W PyProof.Rows in
set_option maxRecDepth 100000 in
set_option maxHeartbeats 0 in
theorem PySem.Challenge.cw_gridplaces_k52_lays_made_holds : PySem.Challenge.rw_gridplaces_k52_lays_made.Holds := by
  w_on; o_law; k_head; (case hw => w_witness2)
  k_fill
  refine Lay.walk_lawB (l := PySem.Challenge.rw_gridplaces_k52_lays_made) (n := 63) (k := 7) (x := "_law_script") (sp := fun K => Lay.lift K K52.spLaw) rfl (by decide) rfl ⟨rfl, by decide, by decide⟩ (fun w h Y => PySem.W.kIn_of Y) ?F ?S
  case F =>
    intro w mg fa h KX G hmg
    refine' K52.all_mk KX G hmg ?g_LETTER_SIGNS ?g_FIGURE_SIGNS ?g_MOST_LEVELS ?g_MOST_TURN ?aC_Grid ?pg_Grid ?hd_Grid ?po_Grid ?sa_Grid ?n_Grid_text ?n_Grid_alphabets ?ha_Grid ?hn_Grid ?ht_Grid ?hm_Grid ?ne_Grid ?rf_Grid_str ?rf_Grid_int ?rf_Grid_bool ?rf_Grid_NoneType ?rf_Grid_tuple ?rf_Grid_list ?fo_Grid ?ic_Grid ?ty_Grid ?aC_Lay ?pg_Lay ?hd_Lay ?po_Lay ?sa_Lay ?n_Lay_grid ?n_Lay_a ?n_Lay_b ?n_Lay_c ?n_Lay_east ?n_Lay_north ?ha_Lay ?hn_Lay ?ht_Lay ?hm_Lay ?ne_Lay ?rf_Lay_str ?rf_Lay_int ?rf_Lay_bool ?rf_Lay_NoneType ?rf_Lay_tuple ?rf_Lay_list ?fo_Lay ?ic_Lay ?ty_Lay ?aX_BadTurn ?xL_BadTurn ?vX_BadTurn ?sx_BadTurn ?ga_BadTurn ?gg_BadTurn ?n_BadTurn_a ?n_BadTurn_b ?n_BadTurn_c ?kX_BadTurn ?eX_BadTurn ?tX_BadTurn ?hX_BadTurn ?iX_BadTurn ?sX_BadTurn ?aX_BadGrid ?xL_BadGrid ?vX_BadGrid ?sx_BadGrid ?ga_BadGrid ?gg_BadGrid ?n_BadGrid_at ?kX_BadGrid ?eX_BadGrid ?tX_BadGrid ?hX_BadGrid ?iX_BadGrid ?sX_BadGrid ?aX_Unlike ?qX_Unlike ?kX_Unlike ?eX_Unlike ?tX_Unlike ?iX_Unlike ?sX_Unlike ?aG_GridError ?sg_GridError ?rd_GridError ?vV_GridError ?a_BadGrid_init ?t_BadGrid_init ?lu_BadGrid_init ?c_BadGrid_init ?k_BadGrid_init ?a_BadTurn_init ?t_BadTurn_init ?lu_BadTurn_init ?c_BadTurn_init ?k_BadTurn_init ?a_signs_by ?lu_signs_by ?c_signs_by ?k_signs_by ?a_Grid_init ?i_Grid_init ?mk_Grid ?kc_Grid ?lu_Grid_init ?c_Grid_init ?k_Grid_init ?a_Grid_eq ?i_Grid_eq ?lu_Grid_eq ?c_Grid_eq ?k_Grid_eq ?a_Grid_len ?i_Grid_len ?lu_Grid_len ?c_Grid_len ?k_Grid_len ?a_Grid_str ?i_Grid_str ?lu_Grid_str ?c_Grid_str ?k_Grid_str ?a_Grid_repr ?i_Grid_repr ?lu_Grid_repr ?c_Grid_repr ?k_Grid_repr ?a_Grid_alphabet ?i_Grid_alphabet ?lu_Grid_alphabet ?c_Grid_alphabet ?k_Grid_alphabet ?a_Grid_cut ?i_Grid_cut ?lu_Grid_cut ?c_Grid_cut ?k_Grid_cut ?a_is_whole ?lu_is_whole ?c_is_whole ?k_is_whole ?a_is_turn ?lu_is_turn ?c_is_turn ?k_is_turn ?a_Lay_init ?i_Lay_init ?mk_Lay ?kc_Lay ?lu_Lay_init ?lT_Lay_init ?c_Lay_init ?k_Lay_init ?a_begin ?lu_begin ?c_begin ?k_begin ?a_next ?lu_next ?c_next ?k_next ?a_grid_text ?lu_grid_text ?c_grid_text ?k_grid_text ?a_whole ?lu_whole ?c_whole ?k_whole ?a_turn ?lu_turn ?c_turn ?k_turn ?zg_GridError ?zi_GridError ?zt_GridError ?zg_BadTurn ?zi_BadTurn ?zt_BadTurn ?zg_BadGrid ?zi_BadGrid ?zt_BadGrid ?zg_BadSquare ?zi_BadSquare ?zt_BadSquare ?zg_NoDeed ?zi_NoDeed ?zt_NoDeed ?zg_NoRatio ?zi_NoRatio ?zt_NoRatio ?zg_Unlike ?zi_Unlike ?zt_Unlike ?zb_GridError ?y1_BadTurn ?y2_BadTurn ?y3_BadTurn ?y4_BadTurn ?y5_BadTurn ?y6_BadTurn ?y7_BadTurn ?y8_BadTurn ?zo_BadTurn ?zv_BadTurn ?zs_BadTurn ?zn_BadTurn_BadGrid ?zn_BadTurn_BadSquare ?zn_BadTurn_NoDeed ?zn_BadTurn_NoRatio ?zn_BadTurn_Unlike ?hkL ?hnL ?a_Lay_eq ?i_Lay_eq ?lu_Lay_eq ?c_Lay_eq ?k_Lay_eq ?a_Lay_repr ?i_Lay_repr ?lu_Lay_repr ?c_Lay_repr ?k_Lay_repr ?a_made ?lu_made ?c_made ?k_made ?a_others ?lu_others ?c_others ?k_others ?a_odd ?lu_odd ?c_odd ?k_odd ?a_refused ?lu_refused ?c_refused ?k_refused ?a_equal_right ?lu_equal_right ?c_equal_right ?k_equal_right ?a_law ?lu_law ?c_law ?k_law ?z_len ?z_abs ?z_range ?z_int ?z_str ?z_repr ?z_isinstance ?z_tuple ?z_enumerate ?z_min ?z_any ?z_all ?z_max ?z_bool ?z_zip ?z_reversed ?z_list ?z_sum ?z_sorted ?z_set ?z_dict ?z_ValueError
    (case g_LETTER_SIGNS => k_is)
    (case g_FIGURE_SIGNS => k_is)
    (case g_MOST_LEVELS => k_is)
    (case g_MOST_TURN => k_is)
    (case aC_Grid => k_is)
    (case pg_Grid => k_is)
    (case hd_Grid => k_is)
    (case po_Grid => k_is)
    (case sa_Grid => k_is)
    (case n_Grid_text => k_is)
    (case n_Grid_alphabets => k_is)
    (case ha_Grid => k_is)
    (case hn_Grid => k_is)
    (case ht_Grid => k_is)
    (case hm_Grid => k_is)
    (case ne_Grid => k_is)
    (case rf_Grid_str => k_is)
    (case rf_Grid_int => k_is)
    (case rf_Grid_bool => k_is)
    (case rf_Grid_NoneType => k_is)
    (case rf_Grid_tuple => k_is)
    (case rf_Grid_list => k_is)
    (case fo_Grid => k_is)
    (case ic_Grid => k_is)
    (case ty_Grid => k_is)
    (case aC_Lay => k_is)
    (case pg_Lay => k_is)
    (case hd_Lay => k_is)
    (case po_Lay => k_is)
    (case sa_Lay => k_is)
    (case n_Lay_grid => k_is)
    (case n_Lay_a => k_is)
    (case n_Lay_b => k_is)
    (case n_Lay_c => k_is)
    (case n_Lay_east => k_is)
    (case n_Lay_north => k_is)
    (case ha_Lay => k_is)
    (case hn_Lay => k_is)
    (case ht_Lay => k_is)
    (case hm_Lay => k_is)
    (case ne_Lay => k_is)
    (case rf_Lay_str => k_is)
    (case rf_Lay_int => k_is)
    (case rf_Lay_bool => k_is)
    (case rf_Lay_NoneType => k_is)
    (case rf_Lay_tuple => k_is)
    (case rf_Lay_list => k_is)
    (case fo_Lay => k_is)
    (case ic_Lay => k_is)
    (case ty_Lay => k_is)
    (case aX_BadTurn => k_is)
    (case xL_BadTurn => k_is)
    (case vX_BadTurn => rfl)
    (case sx_BadTurn => k_is)
    (case ga_BadTurn => k_is)
    (case gg_BadTurn => k_is)
    (case n_BadTurn_a => k_is)
    (case n_BadTurn_b => k_is)
    (case n_BadTurn_c => k_is)
    (case kX_BadTurn => k_is)
    (case eX_BadTurn => k_is)
    (case tX_BadTurn => k_is)
    (case hX_BadTurn => k_is)
    (case iX_BadTurn => k_is)
    (case sX_BadTurn => first | rfl | k_is)
    (case aX_BadGrid => k_is)
    (case xL_BadGrid => k_is)
    (case vX_BadGrid => rfl)
    (case sx_BadGrid => k_is)
    (case ga_BadGrid => k_is)
    (case gg_BadGrid => k_is)
    (case n_BadGrid_at => k_is)
    (case kX_BadGrid => k_is)
    (case eX_BadGrid => k_is)
    (case tX_BadGrid => k_is)
    (case hX_BadGrid => k_is)
    (case iX_BadGrid => k_is)
    (case sX_BadGrid => first | rfl | k_is)
    (case aX_Unlike => k_is)
    (case qX_Unlike => k_exc)
    (case kX_Unlike => k_is)
    (case eX_Unlike => k_is)
    (case tX_Unlike => k_is)
    (case iX_Unlike => k_is)
    (case sX_Unlike => first | rfl | k_is)
    (case aG_GridError => k_is)
    (case sg_GridError => k_is)
    (case rd_GridError => k_is)
    (case vV_GridError => k_is)
    (case a_BadGrid_init => k_is)
    (case t_BadGrid_init => k_is)
    (case lu_BadGrid_init => k_is)
    (case c_BadGrid_init => k_is)
    (case k_BadGrid_init => k_is)
    (case a_BadTurn_init => k_is)
    (case t_BadTurn_init => k_is)
    (case lu_BadTurn_init => k_is)
    (case c_BadTurn_init => k_is)
    (case k_BadTurn_init => k_is)
    (case a_signs_by => k_is)
    (case lu_signs_by => k_is)
    (case c_signs_by => k_is)
    (case k_signs_by => k_is)
    (case a_Grid_init => k_is)
    (case i_Grid_init => k_is)
    (case mk_Grid => k_is)
    (case kc_Grid => k_is)
    (case lu_Grid_init => k_is)
    (case c_Grid_init => k_is)
    (case k_Grid_init => k_is)
    (case a_Grid_eq => k_is)
    (case i_Grid_eq => k_is)
    (case lu_Grid_eq => k_is)
    (case c_Grid_eq => k_is)
    (case k_Grid_eq => k_is)
    (case a_Grid_len => k_is)
    (case i_Grid_len => k_is)
    (case lu_Grid_len => k_is)
    (case c_Grid_len => k_is)
    (case k_Grid_len => k_is)
    (case a_Grid_str => k_is)
    (case i_Grid_str => k_is)
    (case lu_Grid_str => k_is)
    (case c_Grid_str => k_is)
    (case k_Grid_str => k_is)
    (case a_Grid_repr => k_is)
    (case i_Grid_repr => k_is)
    (case lu_Grid_repr => k_is)
    (case c_Grid_repr => k_is)
    (case k_Grid_repr => k_is)
    (case a_Grid_alphabet => k_is)
    (case i_Grid_alphabet => k_is)
    (case lu_Grid_alphabet => k_is)
    (case c_Grid_alphabet => k_is)
    (case k_Grid_alphabet => k_is)
    (case a_Grid_cut => k_is)
    (case i_Grid_cut => k_is)
    (case lu_Grid_cut => k_is)
    (case c_Grid_cut => k_is)
    (case k_Grid_cut => k_is)
    (case a_is_whole => k_is)
    (case lu_is_whole => k_is)
    (case c_is_whole => k_is)
    (case k_is_whole => k_is)
    (case a_is_turn => k_is)
    (case lu_is_turn => k_is)
    (case c_is_turn => k_is)
    (case k_is_turn => k_is)
    (case a_Lay_init => k_is)
    (case i_Lay_init => k_is)
    (case mk_Lay => k_is)
    (case kc_Lay => k_is)
    (case lu_Lay_init => k_is)
    (case lT_Lay_init => k_is)
    (case c_Lay_init => k_is)
    (case k_Lay_init => k_is)
    (case a_begin => k_is)
    (case lu_begin => k_is)
    (case c_begin => k_is)
    (case k_begin => k_is)
    (case a_next => k_is)
    (case lu_next => k_is)
    (case c_next => k_is)
    (case k_next => k_is)
    (case a_grid_text => k_is)
    (case lu_grid_text => k_is)
    (case c_grid_text => k_is)
    (case k_grid_text => k_is)
    (case a_whole => k_is)
    (case lu_whole => k_is)
    (case c_whole => k_is)
    (case k_whole => k_is)
    (case a_turn => k_is)
    (case lu_turn => k_is)
    (case c_turn => k_is)
    (case k_turn => k_is)
    (case zg_GridError => k_is)
    (case zi_GridError => k_is)
    (case zt_GridError => k_is)
    (case zg_BadTurn => k_is)
    (case zi_BadTurn => k_is)
    (case zt_BadTurn => k_is)
    (case zg_BadGrid => k_is)
    (case zi_BadGrid => k_is)
    (case zt_BadGrid => k_is)
    (case zg_BadSquare => k_is)
    (case zi_BadSquare => k_is)
    (case zt_BadSquare => k_is)
    (case zg_NoDeed => k_is)
    (case zi_NoDeed => k_is)
    (case zt_NoDeed => k_is)
    (case zg_NoRatio => k_is)
    (case zi_NoRatio => k_is)
    (case zt_NoRatio => k_is)
    (case zg_Unlike => k_is)
    (case zi_Unlike => k_is)
    (case zt_Unlike => k_is)
    (case zb_GridError => k_is)
    (case y1_BadTurn => k_is)
    (case y2_BadTurn => k_is)
    (case y3_BadTurn => k_is)
    (case y4_BadTurn => k_is)
    (case y5_BadTurn => k_is)
    (case y6_BadTurn => k_is)
    (case y7_BadTurn => k_is)
    (case y8_BadTurn => k_is)
    (case zo_BadTurn => first | rfl | k_is)
    (case zv_BadTurn => k_is)
    (case zs_BadTurn => k_is)
    (case zn_BadTurn_BadGrid => k_is)
    (case zn_BadTurn_BadSquare => k_is)
    (case zn_BadTurn_NoDeed => k_is)
    (case zn_BadTurn_NoRatio => k_is)
    (case zn_BadTurn_Unlike => k_is)
    (case hkL => first | rfl | k_is)
    (case hnL => first | rfl | k_is)
    (case a_Lay_eq => k_is)
    (case i_Lay_eq => k_is)
    (case lu_Lay_eq => k_is)
    (case c_Lay_eq => k_is)
    (case k_Lay_eq => k_is)
    (case a_Lay_repr => k_is)
    (case i_Lay_repr => k_is)
    (case lu_Lay_repr => k_is)
    (case c_Lay_repr => k_is)
    (case k_Lay_repr => k_is)
    (case a_made => k_is)
    (case lu_made => k_is)
    (case c_made => k_is)
    (case k_made => k_is)
    (case a_others => k_is)
    (case lu_others => k_is)
    (case c_others => k_is)
    (case k_others => k_is)
    (case a_odd => k_is)
    (case lu_odd => k_is)
    (case c_odd => k_is)
    (case k_odd => k_is)
    (case a_refused => k_is)
    (case lu_refused => k_is)
    (case c_refused => k_is)
    (case k_refused => k_is)
    (case a_equal_right => k_is)
    (case lu_equal_right => k_is)
    (case c_equal_right => k_is)
    (case k_equal_right => k_is)
    (case a_law => k_is)
    (case lu_law => k_is)
    (case c_law => k_is)
    (case k_law => k_is)
    (case z_len => k_is)
    (case z_abs => k_is)
    (case z_range => k_is)
    (case z_int => k_is)
    (case z_str => k_is)
    (case z_repr => k_is)
    (case z_isinstance => k_is)
    (case z_tuple => k_is)
    (case z_enumerate => k_is)
    (case z_min => k_is)
    (case z_any => k_is)
    (case z_all => k_is)
    (case z_max => k_is)
    (case z_bool => k_is)
    (case z_zip => k_is)
    (case z_reversed => k_is)
    (case z_list => k_is)
    (case z_sum => k_is)
    (case z_sorted => k_is)
    (case z_set => k_is)
    (case z_dict => k_is)
    (case z_ValueError => k_is)
  case S =>
    intro K H a ns hl hb hS
    exact K52.law_asks hl hb hS
#print axioms PySem.Challenge.cw_gridplaces_k52_lays_made_holds
