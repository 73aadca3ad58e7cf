import PyProof.Rows.All
import Wide.All
import OpenK.AllK
import Wide.FinOn
import HandS.ForMost
import HandS.Wide
import HandS.Zip
import HandS.TupAny
import HandS.RaiseMore
import HandS.Walk
import HandS.Flow
import HandS.Style
import HandS.ExcInit
import HandS.ExcField
import HandS.ExcOwn
import HandS.WordsExc
import HandS.IsInst
import HandS.Exc
import HandS.Defaults
import PyProof.StrBlock2
import PyProof.CallFns
import PyProof.CallStr
import HandS.SlotsOwn
import OpenK.KOps
import KE.KCallOwn
import KE.KFmtOwn
import HandS.StrMore
import HandS.FStr
import HandS.ExcValue
import PyProof.LongRange
import PyProof.Rows.GenSrcRange
import HandS.Rev
import HandS.TryOnly
import HandS.More
import KE.GoesZip
import KE.GoesMore
import HandS.Deep
import PyProof.EqAt
import KE.GoesEnum
import HandS.Conv
import PyProof.ListStr
import HandS.TupLe
import HandS.ExcIs
import KE.KExcIs
import PyProof.ReprNest
import PyProof.NeKinds
import HandS.Codes
import HandS.Replace
import PySem.Challenge.RW_gridplaces_k14_references_read
set_option Elab.async false
set_option linter.all false
set_option maxRecDepth 100000
set_option maxHeartbeats 2000000
namespace Lay
open PySem PySem.Spec PyProof.Rows L2

/-! ### defs that may show data: no repr is under way around them -/
theorem guards_deep {A : Around} {env : Env} (h : A.guards = some []) : (A.deeper env).guards = some [] := h
theorem guards_make {A : Around} {C : Addr} {us : List Value} {kw : List (Str × Value)} (h : A.guards = some []) :
    (A.under (.builtin "type.__call__" ⟨.ref C :: us, kw⟩)).guards = some [] := by
  first | exact h | (simp [Around.under, Code.guards, Code.isGuard, guardIds, h])

/-- as the layer's FnOk, but only where no repr is under way -/
structure FnG (P : Program) (w : World) (K : PySem.W.Frag) (mg : Str → Option Value) (base : Heap)
    (CX : CXT) (k : Nat) (f : Addr) (fd : FuncData) (ps : List Str) (sp : Sp) : Prop where
  ln : ∀ vs H Q E, sp vs H Q E → vs.length = ps.length
  go : ∀ (A : Around) (outer : List Env) (s : Shared) (H : Hp) (args : Args) (us : List Value)
    (vs : List V) (Q : VK) (E : XK), Room k A → A.guards = some [] → Env0 P w K mg base A outer s H →
    BindsTo s fd args (ps.zip us) → Vals vs us → sp vs H Q E →
    codeAny (model P w) A (.call (.ref f) args) (CR CX outer P w H s Q E) s

section
variable {P : Program} {w : World} {K : PySem.W.Frag} {mg : Str → Option Value} {base : Heap} {CX : CXT} {k : Nat}
  {f : Addr} {fd : FuncData} {ps : List Str} {sp : Sp}
theorem FnG.of (F : FnOk P w K mg base CX k f fd ps sp) : FnG P w K mg base CX k f fd ps sp :=
  ⟨F.len, fun A outer s H args us vs Q E hr _ he hb hv hs => F.run A outer s H args us vs Q E hr he hb hv hs⟩
theorem FnG.up {j : Nat} (F : FnG P w K mg base CX j f fd ps sp) (h : j ≤ k) : FnG P w K mg base CX k f fd ps sp :=
  ⟨F.ln, fun A outer s H args us vs Q E hr => F.go A outer s H args us vs Q E (hr.mono h)⟩

/-- a def by its body -/
theorem fg_of {name qual : Str} {params : Arguments} {body : List Stmt} {scope : Scope} {dV kV doc pm cdv ct oc : Value}
    {an od : Option Addr} {osl : Array (Option Value)} {N : List Str}
    (lk : K.lookup f = some ⟨oc, od, .func (PySem.W.fnOf name qual params body scope dV kV doc pm an cdv ct), osl⟩)
    (hcd : PySem.W.codeIn K cdv qual = true) (S : FnScope N ps scope)
    (ln : ∀ vs H Q E, sp vs H Q E → vs.length = ps.length)
    (hb : ∀ (A : Around) (outer : List Env) (s : Shared) (H : Hp) (vs : List V) (Q : VK) (E : XK),
      Room k (A.deeper (envOfC qual scope s.heap.objs.size f cdv)) →
      (A.deeper (envOfC qual scope s.heap.objs.size f cdv)).guards = some [] → sp vs H Q E →
      ∃ t, PSs (cxOf CX P w K mg base N qual scope f cdv A outer s H E) body t ∧
        t { nx := fun _ H' => Q .non H', rt := Q } (start N vs) H) :
    FnG P w K mg base CX (k + 1) f (PySem.W.fnOf name qual params body scope dV kV doc pm an cdv ct) ps sp := by
  refine ⟨ln, ?_⟩
  intro A outer s H args us vs Q E hr hg e0 hbd r hsp
  have hlen := ln _ _ _ _ hsp
  have inS : K.In s.heap := e0.mod.kin.keeps fun b o q => (e0.bs b o q).1
  have noL : s.heap.NoLimit := e0.mod.nolimit.keeps fun b o q => (e0.bs b o q).1
  have kinds : ∀ y ∈ ps.zip us, scope.names.lookup y.1 = some .local ∨
      (scope.names.lookup y.1 = some .cell ∧ ((cellsFrom (s.heap.objs.size + 1) scope.names []).lookup y.1).isSome = true) := by
    rintro ⟨n, v⟩ hy
    cases S.par n (List.of_mem_zip hy).1 with
    | inl q => exact .inl q
    | inr q => exact .inr ⟨q, PySem.W.cellsFrom_some _ _ _ (.inl q)⟩
  refine codeAny_call_function hr.depth (inS _ _ lk) rfl S.co S.gen rfl (PySem.W.codeRec_of inS hcd) (hbd _ _ _ _ ?_)
  refine wpAny_newFunctionEnv_cells S.kind kinds ?_
  intro env he s1 x
  subst he
  refine ⟨noL.keeps x.toInCall.keep, codeAny_func ?_⟩
  obtain ⟨t, ht, hq⟩ := hb A outer s H vs Q E (hr.deeper _) (guards_deep hg) hsp
  have I0 := inv_start (CX := CX) (E := E) S hr.hd e0 hlen r x
  refine wpAny_mono (ht.run [] s1 (start N vs) H _ I0 hq) ?_ (fun _ _ z => z)
  intro fl s' hs
  cases fl with
  | ret u => obtain ⟨v, σ', H', J, rv, q⟩ := hs; exact ⟨v, H', J.os, J.bare, J.base, J.hok, rv, q⟩
  | next => obtain ⟨σ', H', J, q⟩ := hs; exact ⟨V.non, H', J.os, J.bare, J.base, J.hok, rfl, q⟩
  | brk => obtain ⟨_, _, _, q⟩ := hs; exact q.elim
  | cont => obtain ⟨_, _, _, q⟩ := hs; exact q.elim

/-- a def that lets no exception out -/
theorem gbody {x qual : Str} {st : Stmt} {N : List Str} (F : Fun K x qual st f fd) (S : FnScope N ps (defScope st))
    (ln : ∀ vs H Q E, sp vs H Q E → vs.length = ps.length)
    (hb : ∀ (cdv : Value) (A : Around) (outer : List Env) (s : Shared) (H : Hp) (vs : List V) (Q : VK) (E : XK),
      Room k (A.deeper (envOfC qual (defScope st) s.heap.objs.size f cdv)) →
      (A.deeper (envOfC qual (defScope st) s.heap.objs.size f cdv)).guards = some [] → sp vs H Q E →
      ∃ t, PSs (cxOf CX0 P w K mg base N qual (defScope st) f cdv A outer s H E).nox (defBody st) t ∧
        t { nx := fun _ H' => Q .non H', rt := Q } (start N vs) H) : FnG P w K mg base CX0 (k + 1) f fd ps sp := by
  obtain ⟨oc, od, kV, doc, pm, an, cdv, ct, osl, rfl, lk, hcd⟩ := F.ex
  refine fg_of lk hcd S ln ?_
  intro A outer s H vs Q E hr hg hsp
  obtain ⟨t, h, q⟩ := hb cdv A outer s H vs Q E hr hg hsp
  exact ⟨t, PSs.nox h, q⟩
/-- a def that may raise -/
theorem gbodyX {x qual : Str} {st : Stmt} {N : List Str} {CY : CXT} (F : Fun K x qual st f fd) (S : FnScope N ps (defScope st))
    (ln : ∀ vs H Q E, sp vs H Q E → vs.length = ps.length)
    (hb : ∀ (cdv : Value) (A : Around) (outer : List Env) (s : Shared) (H : Hp) (vs : List V) (Q : VK) (E : XK),
      Room k (A.deeper (envOfC qual (defScope st) s.heap.objs.size f cdv)) →
      (A.deeper (envOfC qual (defScope st) s.heap.objs.size f cdv)).guards = some [] → sp vs H Q E →
      ∃ t, PSs (cxOf CY P w K mg base N qual (defScope st) f cdv A outer s H E) (defBody st) t ∧
        t { nx := fun _ H' => Q .non H', rt := Q } (start N vs) H) : FnG P w K mg base CY (k + 1) f fd ps sp := by
  obtain ⟨oc, od, kV, doc, pm, an, cdv, ct, osl, rfl, lk, hcd⟩ := F.ex
  exact fg_of lk hcd S ln fun A outer s H vs Q E hr hg hsp => hb cdv A outer s H vs Q E hr hg hsp
end

section
variable {X : Cx} {CX : CXT} {k : Nat} {f : Addr} {fd : FuncData} {ps ks : List Str} {sp : Sp} {dvs : List V} {ds : List Value}
  {E : XK} {x m : Str} {p pos apos : Pos} {e o : Expr} {es : List Expr} {kws : List Keyword} {ta : TE} {t tk : TA} {C : Addr}
/-- a callee's end, seen from the caller -/
theorem back {pins : List (Addr × Obj)} {σ : L2.St} {H : Hp} {s : Shared} {Q : VK} (hx : Passes CX X E) (I : Inv X pins σ H s)
    {r : Result} {s' : Shared} (hq : CR CX X.stack X.prog X.w H s Q E r s') :
    (match r with | .ok (.ret u) => EP X pins σ Q u s' | .ok _ => False | .error e => X.xe e s') := by
  cases r with
  | error e => exact hx pins σ H s e s' I hq
  | ok fl =>
    cases fl with
    | ret u => exact I.after hq
    | next => exact hq
    | brk => exact hq
    | cont => exact hq
theorem gcall {pins : List (Addr × Obj)} {σ : L2.St} {H : Hp} {s : Shared} {Q : VK} {args : Args} {us : List Value} {vs : List V}
    (F : FnG X.prog X.w X.K X.mg X.base CX k f fd ps sp) (hr : Room k X.A) (hg : X.A.guards = some [])
    (hb : BindsTo s fd args (ps.zip us)) (hx : Passes CX X E) (I : Inv X pins σ H s) (r : Vals vs us) (h : sp vs H Q E) :
    wpAny (model X.prog X.w) X.A (call (.ref f) args.pos args.kw) (EP X pins σ Q) X.xe s := by
  obtain ⟨ap, ak⟩ := args
  refine wpAny_call (codeAny_mono (F.go X.A X.stack s H ⟨ap, ak⟩ us vs Q E hr hg I.env0 hb r h) ?_)
  intro r s' hq
  have z := back hx I hq
  cases r with
  | error e => exact z
  | ok fl =>
    cases fl with
    | ret u => exact z
    | next => exact z.elim
    | brk => exact z.elim
    | cont => exact z.elim
theorem gcallP {pins : List (Addr × Obj)} {σ : L2.St} {H : Hp} {s : Shared} {Q : VK} {us : List Value} {vs : List V}
    (F : FnG X.prog X.w X.K X.mg X.base CX k f fd ps sp) (hr : Room k X.A) (hg : X.A.guards = some [])
    (hb : Binds X.K fd ps ds) (hd : Vals dvs ds) (hx : Passes CX X E) (I : Inv X pins σ H s) (r : Vals vs us)
    (h : sp (vs ++ dvs) H Q E) : wpAny (model X.prog X.w) X.A (call (.ref f) us) (EP X pins σ Q) X.xe s := by
  have r2 : Vals (vs ++ dvs) (us ++ ds) := r.append hd
  have hl : (us ++ ds).length = ps.length := by rw [← r2.length]; exact F.ln _ _ _ _ h
  exact gcall (args := ⟨us, []⟩) F hr hg (hb s us I.kIn hl) hx I r2 h

/-- f(e, ..) -/
theorem ge_call (F : FnG X.prog X.w X.K X.mg X.base CX k f fd ps sp) (hr : Room k X.A) (hg : X.A.guards = some []) (hG : Gl X x)
    (hm : X.mg x = some (.ref f)) (hk : PySem.W.keepIn X.K (.ref f) = true) (hb : Binds X.K fd ps ds) (hd : Vals dvs ds)
    (hx : Passes CX X E) (ha : PA X (e :: es) t) (hdb : (x == ("__debug__" : Str)) = false := by decide)
    (he : starEach (e :: es) X.env = (false, eval e X.env) :: starEach es X.env := by rfl)
    (hpl : (backTo pos (starEach es X.env)).any (·.1) = false := by rfl) :
    PE X (.Call (.Name x p) (e :: es) [] pos) (tCall sp dvs E t) := by
  constructor
  intro pins s σ H Q I h
  refine wpAny_Call_Name_kw (ld_glob I hG hm ?_ hdb)
  refine PySem.W.callWith_K (h₀ := X.base) I.ok.mod.kin hk (thn (ha.run pos pins s σ H _ I h) ?_) he hpl
  rintro us s1 ⟨vs, H1, I1, r, q⟩
  exact ⟨I1.kIn, gcallP F hr hg hb hd hx I1 r q⟩
theorem ge_call0 (F : FnG X.prog X.w X.K X.mg X.base CX k f fd ps sp) (hr : Room k X.A) (hg : X.A.guards = some []) (hG : Gl X x)
    (hm : X.mg x = some (.ref f)) (hk : PySem.W.keepIn X.K (.ref f) = true) (hb : Binds X.K fd ps ds) (hd : Vals dvs ds)
    (hx : Passes CX X E) (hdb : (x == ("__debug__" : Str)) = false := by decide) :
    PE X (.Call (.Name x p) [] [] pos) (tCall sp dvs E tNil) := by
  constructor
  intro pins s σ H Q I h
  exact wpAny_Call_Name_kw (ld_glob I hG hm (PySem.W.callWith_K0 I.kIn hk (gcallP (us := []) F hr hg hb hd hx I .nil h)) hdb)

variable {g : List Value → List Value → List Value} {gV : List V → List V → List V}
/-- f(e, .., k = v, ..) -/
theorem ge_callK (F : FnG X.prog X.w X.K X.mg X.base CX k f fd ps sp) (hr : Room k X.A) (hg : X.A.guards = some []) (hG : Gl X x)
    (hm : X.mg x = some (.ref f)) (hk : PySem.W.keepIn X.K (.ref f) = true) (hb : KBinds X.K fd ps ks g gV) (hx : Passes CX X E)
    (ha : PA X (e :: es) t) (hkw : PK X kws tk) (hall : (backToKw pos (keywordEach kws X.env)).all (·.1.isSome) = true := by rfl)
    (hks : (backToKw pos (keywordEach kws X.env)).filterMap (·.1) = ks := by rfl)
    (hdb : (x == ("__debug__" : Str)) = false := by decide)
    (he : starEach (e :: es) X.env = (false, eval e X.env) :: starEach es X.env := by rfl)
    (hpl : ((backTo pos (starEach (e :: es) X.env)).any (·.1) || (backToKw pos (keywordEach kws X.env)).any (·.1.isNone)) = false := by rfl) :
    PE X (.Call (.Name x p) (e :: es) kws pos) (tCallK sp gV E t tk) := by
  constructor
  intro pins s σ H Q I h
  refine wpAny_Call_Name_kw (ld_glob I hG hm ?_ hdb)
  refine PySem.W.callWith_KW (h₀ := X.base) I.ok.mod.kin hk hall (thn (ha.run pos pins s σ H _ I h) ?_) hpl he
  rintro us s1 ⟨vs, H1, I1, r, q⟩
  refine thn (hkw.run pos pins s1 σ H1 _ I1 q) ?_
  rintro ws s2 ⟨zs, H2, I2, rz, q2⟩
  refine ⟨I2.kIn, ?_⟩
  rw [hks]
  have r2 := hb.rel r rz
  have hl : (g us ws).length = ps.length := by rw [← r2.length]; exact F.ln _ _ _ _ q2
  exact gcall (args := ⟨us, ks.zip ws⟩) F hr hg (hb.to s2 us ws I2.kIn hl) hx I2 r2 q2
end

/-- keywords: n values by place, the named ones in the order ks; srcs says which of them (or which default) each parameter takes -/
structure KwB (K : PySem.W.Frag) (fd : FuncData) (ps : List Str) (n : Nat) (ks : List Str)
    (g : List Value → List Value → List Value) (gV : List V → List V → List V) : Prop where
  to : ∀ (s : Shared) (us ws : List Value), K.In s.heap → us.length = n → ws.length = ks.length → BindsTo s fd ⟨us, ks.zip ws⟩ (ps.zip (g us ws))
  rel : ∀ (vs zs : List V) (us ws : List Value), vs.length = n → zs.length = ks.length → Vals vs us → Vals zs ws → Vals (gV vs zs) (g us ws)
def tKw (n m : Nat) (sp : Sp) (gV : List V → List V → List V) (E : XK) (t tk : TA) : TE := fun σ H Q =>
  t σ H fun vs H1 => tk σ H1 fun zs H2 => vs.length = n ∧ zs.length = m ∧ sp (gV vs zs) H2 Q E
section
variable {X : Cx} {CX : CXT} {k n : Nat} {f : Addr} {fd : FuncData} {ps ks : List Str} {sp : Sp}
  {E : XK} {x : Str} {p pos : Pos} {e : Expr} {es : List Expr} {kws : List Keyword} {t tk : TA}
  {g : List Value → List Value → List Value} {gV : List V → List V → List V}
theorem ge_kw (F : FnG X.prog X.w X.K X.mg X.base CX k f fd ps sp) (hr : Room k X.A) (hg : X.A.guards = some []) (hG : Gl X x)
    (hm : X.mg x = some (.ref f)) (hk : PySem.W.keepIn X.K (.ref f) = true) (hb : KwB X.K fd ps n ks g gV) (hx : Passes CX X E)
    (ha : PA X (e :: es) t) (hkw : PK X kws tk) (hall : (backToKw pos (keywordEach kws X.env)).all (·.1.isSome) = true := by rfl)
    (hks : (backToKw pos (keywordEach kws X.env)).filterMap (·.1) = ks := by rfl)
    (hdb : (x == ("__debug__" : Str)) = false := by decide)
    (he : starEach (e :: es) X.env = (false, eval e X.env) :: starEach es X.env := by rfl)
    (hpl : ((backTo pos (starEach (e :: es) X.env)).any (·.1) || (backToKw pos (keywordEach kws X.env)).any (·.1.isNone)) = false := by rfl) :
    PE X (.Call (.Name x p) (e :: es) kws pos) (tKw n ks.length sp gV E t tk) := by
  constructor
  intro pins s σ H Q I h
  refine wpAny_Call_Name_kw (ld_glob I hG hm ?_ hdb)
  refine PySem.W.callWith_KW (h₀ := X.base) I.ok.mod.kin hk hall (thn (ha.run pos pins s σ H _ I h) ?_) hpl he
  rintro us s1 ⟨vs, H1, I1, r, q⟩
  refine thn (hkw.run pos pins s1 σ H1 _ I1 q) ?_
  rintro ws s2 ⟨zs, H2, I2, rz, l1, l2, q2⟩
  refine ⟨I2.kIn, ?_⟩
  rw [hks]
  exact gcall (args := ⟨us, ks.zip ws⟩) F hr hg (hb.to s2 us ws I2.kIn (by rw [← r.length]; exact l1) (by rw [← rz.length]; exact l2)) hx I2 (hb.rel vs zs us ws l1 l2 r rz) q2
theorem ge_kw0 (F : FnG X.prog X.w X.K X.mg X.base CX k f fd ps sp) (hr : Room k X.A) (hg : X.A.guards = some []) (hG : Gl X x)
    (hm : X.mg x = some (.ref f)) (hk : PySem.W.keepIn X.K (.ref f) = true) (hb : KwB X.K fd ps 0 ks g gV) (hx : Passes CX X E)
    (hkw : PK X kws tk) (hall : (backToKw pos (keywordEach kws X.env)).all (·.1.isSome) = true := by rfl)
    (hks : (backToKw pos (keywordEach kws X.env)).filterMap (·.1) = ks := by rfl)
    (hdb : (x == ("__debug__" : Str)) = false := by decide)
    (hpl : ((backTo pos (starEach [] X.env)).any (·.1) || (backToKw pos (keywordEach kws X.env)).any (·.1.isNone)) = false := by rfl) :
    PE X (.Call (.Name x p) [] kws pos) (tKw 0 ks.length sp gV E tNil tk) := by
  constructor
  intro pins s σ H Q I h
  refine wpAny_Call_Name_kw (ld_glob I hG hm ?_ hdb)
  refine PySem.W.callWith_KW0 (h₀ := X.base) I.ok.mod.kin hk hall ?_ hpl
  refine thn (hkw.run pos pins s σ H _ I h) ?_
  rintro ws s2 ⟨zs, H2, I2, rz, l1, l2, q2⟩
  refine ⟨I2.kIn, ?_⟩
  rw [hks]
  exact gcall (args := ⟨[], ks.zip ws⟩) F hr hg (hb.to s2 [] ws I2.kIn rfl (by rw [← rz.length]; exact l2)) hx I2 (hb.rel [] zs [] ws l1 l2 .nil rz) q2
end

/-! ### a def of the top as its callers see it -/
structure Callee (P : Program) (w : World) (K : PySem.W.Frag) (mg : Str → Option Value) (base : Heap)
    (CX : CXT) (k : Nat) (x : Str) (st : Stmt) (ps : List Str) (sp : Sp) : Prop where
  ex : ∃ (f : Addr) (fd : FuncData), mg x = some (.ref f) ∧ Fun K x x st f fd ∧ Binds K fd ps [] ∧ FnG P w K mg base CX k f fd ps sp
section
variable {X : Cx} {CX : CXT} {j k n : Nat} {ps ks : List Str} {sp : Sp} {st : Stmt}
  {E : XK} {x : Str} {p pos : Pos} {e : Expr} {es : List Expr} {kws : List Keyword} {t tk : TA}
  {g : List Value → List Value → List Value} {gV : List V → List V → List V}
theorem Callee.call (C : Callee X.prog X.w X.K X.mg X.base CX0 k x st ps sp) (hG : Gl X x) (hr : Room j X.A) (hg : X.A.guards = some [])
    (ha : PA X (e :: es) t) (hj : k ≤ j := by decide) (hdb : (x == ("__debug__" : Str)) = false := by decide)
    (he : starEach (e :: es) X.env = (false, eval e X.env) :: starEach es X.env := by rfl)
    (hpl : (backTo pos (starEach es X.env)).any (·.1) = false := by rfl) :
    PE X (.Call (.Name x p) (e :: es) [] pos) (tCall sp [] E0 t) := by
  obtain ⟨f, fd, hm, F, b, G⟩ := C.ex
  exact ge_call G (hr.mono hj) hg hG hm F.kp b .nil pass0 ha hdb he hpl
theorem Callee.call0 (C : Callee X.prog X.w X.K X.mg X.base CX0 k x st ps sp) (hG : Gl X x) (hr : Room j X.A) (hg : X.A.guards = some [])
    (hj : k ≤ j := by decide) (hdb : (x == ("__debug__" : Str)) = false := by decide) :
    PE X (.Call (.Name x p) [] [] pos) (tCall sp [] E0 tNil) := by
  obtain ⟨f, fd, hm, F, b, G⟩ := C.ex
  exact ge_call0 G (hr.mono hj) hg hG hm F.kp b .nil pass0 hdb
theorem Callee.kw (C : Callee X.prog X.w X.K X.mg X.base CX0 k x st ps sp)
    (hb : ∀ (f : Addr) (fd : FuncData), Fun X.K x x st f fd → KwB X.K fd ps n ks g gV) (hG : Gl X x) (hr : Room j X.A) (hg : X.A.guards = some [])
    (ha : PA X (e :: es) t) (hkw : PK X kws tk) (hj : k ≤ j := by decide)
    (hall : (backToKw pos (keywordEach kws X.env)).all (·.1.isSome) = true := by rfl)
    (hks : (backToKw pos (keywordEach kws X.env)).filterMap (·.1) = ks := by rfl)
    (hdb : (x == ("__debug__" : Str)) = false := by decide)
    (he : starEach (e :: es) X.env = (false, eval e X.env) :: starEach es X.env := by rfl)
    (hpl : ((backTo pos (starEach (e :: es) X.env)).any (·.1) || (backToKw pos (keywordEach kws X.env)).any (·.1.isNone)) = false := by rfl) :
    PE X (.Call (.Name x p) (e :: es) kws pos) (tKw n ks.length sp gV E0 t tk) := by
  obtain ⟨f, fd, hm, F, b, G⟩ := C.ex
  exact ge_kw G (hr.mono hj) hg hG hm F.kp (hb f fd F) pass0 ha hkw hall hks hdb he hpl
theorem Callee.kw0 (C : Callee X.prog X.w X.K X.mg X.base CX0 k x st ps sp)
    (hb : ∀ (f : Addr) (fd : FuncData), Fun X.K x x st f fd → KwB X.K fd ps 0 ks g gV) (hG : Gl X x) (hr : Room j X.A) (hg : X.A.guards = some [])
    (hkw : PK X kws tk) (hj : k ≤ j := by decide)
    (hall : (backToKw pos (keywordEach kws X.env)).all (·.1.isSome) = true := by rfl)
    (hks : (backToKw pos (keywordEach kws X.env)).filterMap (·.1) = ks := by rfl)
    (hdb : (x == ("__debug__" : Str)) = false := by decide)
    (hpl : ((backTo pos (starEach [] X.env)).any (·.1) || (backToKw pos (keywordEach kws X.env)).any (·.1.isNone)) = false := by rfl) :
    PE X (.Call (.Name x p) [] kws pos) (tKw 0 ks.length sp gV E0 tNil tk) := by
  obtain ⟨f, fd, hm, F, b, G⟩ := C.ex
  exact ge_kw0 G (hr.mono hj) hg hG hm F.kp (hb f fd F) pass0 hkw hall hks hdb hpl
end

/-! ### the law's own call -/
theorem enter_law {P : Program} {w : World} {K : PySem.W.Frag} {mg mb : Str → Option Value} {CX : CXT} {k : Nat} {fa a : Addr} {fd : FuncData}
    {x : Str} {sp : Sp} {s₁ : Shared} {vs : List Value} {ns : List Int}
    (KX : K.In s₁.heap) (hns : s₁.heap.Ns mainGlobals mg) (hb : s₁.heap.Ns builtinsNs mb)
    (hbb : ∀ x : Str, x ≠ "__name__" → mb x = bootBuiltins x) (hlim : s₁.heap.NoLimit) (hg : s₁.gens = #[])
    (ha : s₁.heap.get? a = some { cls := .type "list", data := .seq vs.toArray }) (hi : IntsAre vs ns) (hl : ns.length ≤ sizeLine) (hr : Room k callerA)
    (F : ∀ base : Heap, K.In base → base.Ns mainGlobals mg → FnG P w K mg base CX k fa fd [x] sp)
    (hbind : ∀ (s : Shared) (u : Value), BindsTo s fd ⟨[u], []⟩ [(x, u)])
    (hsp : ∀ H : Hp, Only H → SqL K H a (ns.map V.int) → sp [.ref a] H (fun v _ => v = .bl true) fun _ _ _ => False)
    (hCX : ∀ H e s', CX [] H s₁ (fun _ _ _ => False) e s' → False) :
    codeAny (model P w) callerA (.call (.ref fa) ⟨[.ref a], []⟩)
      (fun r s' => r = .ok (.ret (.bool true)) ∧ OldK s₁.heap s'.heap ∧ s'.os = s₁.os ∧ AllBare s'.gens) s₁ := by
  have rv := vals_ints hi
  have lv := hi.length
  suffices core : ∀ H : Hp, Only H → SqL K H a (ns.map V.int) → HOk P w H s₁.heap → (∀ b, H b ≠ none → b = a) → (H a ≠ none → K.lookup a = none) →
      codeAny (model P w) callerA (.call (.ref fa) ⟨[.ref a], []⟩)
        (fun r s' => r = .ok (.ret (.bool true)) ∧ OldK s₁.heap s'.heap ∧ s'.os = s₁.os ∧ AllBare s'.gens) s₁ by
    cases hk : K.lookup a with
    | some o =>
      have e := KX a o hk
      rw [ha] at e
      obtain rfl := Option.some.inj e
      have nothing : ∀ b : Addr, ¬ ((fun _ => none : Hp) b ≠ none) := fun b z => z rfl
      refine core (fun _ => none) (fun _ => .inl rfl) ?_ ?_ (fun b z => (nothing b z).elim) fun z => (nothing a z).elim
      · exact .inr ⟨_, vs.toArray, _, hk, rfl, rfl, rfl, by rw [List.size_toArray, lv]; exact hl, by simpa using rv⟩
      · intro b u z
        cases (show (none : Option HO) = some u from z)
    | none =>
      have at_a : ∀ {b : Addr} {u : HO}, (if b = a then some (HO.frz { cls := .type "list", data := .seq vs.toArray } (.lst (ns.map V.int))) else none) = some u →
          b = a ∧ u = HO.frz { cls := .type "list", data := .seq vs.toArray } (.lst (ns.map V.int)) := by
        intro b u z
        by_cases q : b = a
        · rw [if_pos q] at z; exact ⟨q, (Option.some.inj z).symm⟩
        · rw [if_neg q] at z; cases z
      refine core (fun b => if b = a then some (.frz { cls := .type "list", data := .seq vs.toArray } (.lst (ns.map V.int))) else none) ?_
        (.inl (.inr ⟨{ cls := .type "list", data := .seq vs.toArray }, if_pos rfl⟩)) ?_ ?_ fun _ => hk
      · intro b
        by_cases q : b = a
        · exact .inr ⟨_, _, if_pos q⟩
        · exact .inl (if_neg q)
      · intro b u z
        obtain ⟨rfl, rfl⟩ := at_a z
        exact ⟨ha, by rw [List.length_map]; exact hl, vs, _, rv, ha⟩
      · intro b z
        by_cases q : b = a
        · exact q
        · exact (z (if_neg q)).elim
  intro H hO hS hok hA hK
  have notDict : ∀ {b : Addr} {o : Obj} {es : Array DictEntry} {ep : Nat}, s₁.heap.get? b = some o → o.data = .dict es ep → H b = none := by
    intro b o es ep e d
    cases q : H b with
    | none => rfl
    | some u =>
      obtain rfl : b = a := hA b (by rw [q]; simp)
      rw [ha] at e
      obtain rfl := Option.some.inj e
      cases (show Data.seq vs.toArray _ = Data.dict es ep from d)
  have nsK : ∀ {b : Addr} {m : Str → Option Value}, s₁.heap.Ns b m → (hidT s₁.heap H).Ns b m := by
    rintro b m ⟨o, es, ep, e, d, r⟩
    exact ⟨o, es, ep, hidT_get e (notDict e d), d, r⟩
  have inB : K.In (hidT s₁.heap H) := by
    intro b o e
    refine hidT_get (KX b o e) ?_
    cases q : H b with
    | none => rfl
    | some u =>
      obtain rfl : b = a := hA b (by rw [q]; simp)
      rw [hK (by rw [q]; simp)] at e
      cases e
  obtain ⟨mc, lim1, lim2⟩ := hlim
  have hM : Mod K mg (hidT s₁.heap H) := ⟨inB, nsK hns, ⟨mb, nsK hb, hbb⟩, mc, nsK lim1, lim2⟩
  have e0 : Env0 P w K mg (hidT s₁.heap H) callerA [] s₁ H :=
    ⟨rfl, hM, fun b o e => of_hidT e, Nat.le_of_eq (hidT_size _ _), trivial, fun b hb => absurd (show b ∈ ([] : List Addr) from hb) (by simp), hok, .of_eq hg⟩
  refine codeAny_mono ((F _ inB (nsK hns)).go callerA [] s₁ H ⟨[.ref a], []⟩ [.ref a] [.ref a] _ _ hr rfl e0 (hbind s₁ (.ref a)) (.cons rfl .nil) (hsp H hO hS)) ?_
  intro r s' h
  cases r with
  | error e => exact (hCX H e s' h).elim
  | ok fl =>
    cases fl with
    | next => exact False.elim h
    | brk => exact False.elim h
    | cont => exact False.elim h
    | ret u =>
      obtain ⟨v, H', os, bare, un, hok', r', q⟩ := h
      obtain rfl : v = .bl true := q
      obtain rfl : u = Value.bool true := r'
      refine ⟨rfl, OldK.of_keep ?_, os, bare⟩
      intro b o e
      cases q : H b with
      | none => exact un.keep b o e q (by intro z; exact absurd (show b ∈ ([] : List Addr) from z) (by simp)) (by simp)
      | some u =>
        rcases hO b with z | ⟨ob, xs, z⟩
        · rw [q] at z; cases z
        · obtain ⟨e1, _⟩ := hok b _ z
          obtain ⟨e2, _⟩ := hok' b _ (un.frzs b ob _ z)
          rw [e] at e1
          cases e1
          exact e2

theorem walk_law {l : PySem.W.OpenLaw} {n k : Nat} {q : Program} {loose : List Str} {XP : (Str → Option Value) → Heap → Prop}
    {YP : World → Heap → Prop} {d : DefRec} {K : Params → PySem.W.Frag} {sp : PySem.W.Frag → Sp} {x : Str}
    (hn : l.most = some n) (hn2 : n ≤ sizeLine) (hdf : d.params.defaults = []) (hr : Room k callerA)
    (hY : ∀ (w : World) (h : Heap), YP w h → (K w.params).In h)
    (F : ∀ (w : World) (mg : Str → Option Value) (fa : Addr) (h : Heap), (K w.params).In h → h.Ns mainGlobals mg → mg d.name = some (.ref fa) →
      ∃ fd : FuncData, (∀ (s : Shared) (u : Value), BindsTo s fd ⟨[u], []⟩ [(x, u)]) ∧
        ∀ base : Heap, (K w.params).In base → base.Ns mainGlobals mg → FnG l.prog w (K w.params) mg base CX0 k fa fd [x] (sp (K w.params)))
    (hsp : ∀ (K : PySem.W.Frag) (H : Hp) (a : Addr) (ns : List Int), ns.length ≤ n → Only H → SqL K H a (ns.map V.int) →
      sp K [.ref a] H (fun v _ => v = .bl true) fun _ _ _ => False) :
    PySem.W.WalkO q loose XP YP l.row.toRowW d [] (fun f vs => PySem.call f vs) := by
  refine Att.attach_call hn hdf ?_
  intro w s₀ s₁ mg mb fa o pm cd doc a vs ns G Y ho hd hcd hmg hobj hints hlen hg
  have KX := hY w _ Y
  obtain ⟨fd, hb, hF⟩ := F w mg fa _ KX G.T.g hmg
  exact enter_law KX G.T.g G.T.b G.T.builtins G.T.nolimit hg hobj hints (Nat.le_trans hlen hn2) hr hF hb
    (fun H hO hS => hsp (K w.params) H a ns hlen hO hS) fun H e s' z => z

/-! ### t[::-1] of a tuple -/
section
variable {prog : Program} {w : World} {A : Around} {E : Value → Shared → Prop} {s : Shared}
theorem revAdjust (n : Nat) : Builtin.Slice.sliceAdjust none none (-1) (n : Int) = ((n : Int) - 1, -1) := by
  first
  | rfl
  | simp [Builtin.Slice.sliceAdjust]
theorem revPlaces (n : Nat) : Builtin.Slice.slicePlaces ((n : Int) - 1) (-1) (-1) = n := by
  unfold Builtin.Slice.slicePlaces
  have h1 : ¬ ((-1 : Int) > 0) := by omega
  simp only [h1, if_false]
  by_cases h : (n : Int) - 1 > -1
  · simp only [h, if_true]
    have e : (-(-1) : Int) = 1 := by decide
    rw [e, Int.ediv_one]
    omega
  · simp only [h, if_false]
    omega
theorem revApplied {sl : Addr} {vs : Value} {n : Nat} {Q : Int × Int × Nat → Shared → Prop} (hs : s.heap.IsSliceOf sl .none .none vs)
    (ps : IsPart vs (some (-1))) (h : Q ((n : Int) - 1, -1, n) s) :
    wpAny (model prog w) A (Builtin.Slice.sliceApplied (.ref sl) (pure (n : Int))) Q E s := by
  obtain ⟨os, hos, hcs, hds⟩ := id hs
  unfold Builtin.Slice.sliceApplied Builtin.Slice.sliceFields
  refine wpAny_bind (wpAny_bind (wpAny_field hos hds (x := .none) rfl (wpAny_bind (wpAny_field hos hds (x := .none) rfl (wpAny_bind (wpAny_field hos hds (x := vs) rfl (wpAny_pure ?_)))))))
  refine wpAny_bind (HT.slicePart_ ps ?_)
  show wpAny _ _ (if ((-1 : Int) == 0) = true then _ else _) _ _ s
  rw [if_neg (by decide)]
  refine wpAny_bind (slicePart_none (wpAny_bind (slicePart_none (wpAny_bind (wpAny_pure ?_)))))
  show wpAny _ _ (match Builtin.Slice.sliceAdjust none none (-1) (n : Int) with | (lo, hi) => pure (lo, (-1 : Int), Builtin.Slice.slicePlaces lo hi (-1))) _ _ s
  rw [revAdjust n]
  show wpAny _ _ (pure ((n : Int) - 1, (-1 : Int), Builtin.Slice.slicePlaces ((n : Int) - 1) (-1) (-1))) _ _ s
  rw [revPlaces]
  exact wpAny_pure h
theorem revPick (xs : Array Value) : ((List.range xs.size).filterMap fun (m : Nat) => xs[((xs.size : Int) - 1 + (m : Int) * -1).toNat]?).toArray = xs.toList.reverse.toArray := by
  congr 1
  have e : (List.range xs.size).filterMap (fun (m : Nat) => xs[((xs.size : Int) - 1 + (m : Int) * -1).toNat]?) = ((List.range xs.size).map (fun k => xs.size - 1 - k)).filterMap (xs[·]?) := by
    rw [List.filterMap_map]
    congr 1
    funext m
    have q : ((xs.size : Int) - 1 + (m : Int) * -1).toNat = xs.size - 1 - m := by omega
    show xs[((xs.size : Int) - 1 + (m : Int) * -1).toNat]? = xs[xs.size - 1 - m]?
    rw [q]
  rw [e, PySem.W.krv_range, List.filterMap_reverse, PySem.W.krv_all]
theorem getItem_tuple_rev {t sl : Addr} {items : Array Value} {vs : Value} {Q : Value → Shared → Prop} (ht : IsTup s.heap t items)
    (hs : s.heap.IsSliceOf sl .none .none vs) (ps : IsPart vs (some (-1)))
    (h : Q (.ref s.heap.objs.size) { s with heap := s.heap.push { cls := .type "tuple", data := .seq items.toList.reverse.toArray } })
    (hsz : items.size ≤ sizeLine) : wpAny (model prog w) A (getItem (.ref t) (.ref sl)) Q E s := by
  have hok : sizeOk (.seq items.toList.reverse.toArray) := by
    show items.toList.reverse.toArray.size ≤ sizeLine
    rw [List.size_toArray, List.length_reverse, Array.length_toList]
    exact hsz
  obtain ⟨os, hos, hcs, hds⟩ := id hs
  have hTs : s.TypeIs (.ref sl) "slice" := ⟨os, hos, hcs⟩
  unfold getItem
  try with_reducible refine wpAny_holding ?_
  first | refine wpAny_bind (wpAny_pure ?_) | skip
  refine wpAny_bind (wpAny_sequenceKey ht.typeIs (by decide) ?_)
  refine wpAny_bind (wpAny_callSpecial?_slot (name := Str.ofString "__getitem__") ht.typeIs PyProof.Rows.slot_tuple_getitem
    (wpAny_call_entry PyProof.Rows.slot_tuple_getitem ht.typeIs entry_tuple_getitem ?_ (args_tuple_getitem _ _)))
  show wpAny _ _ (Builtin.Tuple.tupleItemsOf (.ref t) >>= _) _ _ s
  refine wpAny_bind (tupleItemsOf_ ht ?_)
  refine wpAny_bind (wpAny_typeOf hTs ?_)
  rw [if_pos (by decide)]
  refine wpAny_bind (revApplied hs ps ?_)
  have hno : ¬ ((((items.size : Int) - 1) == 0 && (-1 : Int) == 1 && items.size == items.size) = true) := by
    intro q
    rw [Bool.and_eq_true, Bool.and_eq_true] at q
    exact absurd q.1.2 (by decide)
  show wpAny _ _ (if (((items.size : Int) - 1) == 0 && (-1 : Int) == 1 && items.size == items.size) = true then _ else _) _ _ s
  rw [if_neg hno, revPick]
  first
    | exact wpAny_bind (m := Builtin.Tuple.tupleExact _) (wpAny_newObj_type (wpAny_pure ⟨_, rfl, wpAny_pure h⟩) hok)
    | exact wpAny_bind (m := Builtin.Tuple.tupleExact _) (wpAny_newObj_type (wpAny_bind (wpAny_pure (wpAny_pure ⟨_, rfl, wpAny_pure h⟩))) hok)
    | exact wpAny_bind (wpAny_bind (m := Builtin.Tuple.tupleExact _) (wpAny_newObj_type (wpAny_pure (wpAny_pure ⟨_, rfl, wpAny_pure h⟩)) hok))
    | exact wpAny_bind (wpAny_bind (m := Builtin.Tuple.tupleExact _) (wpAny_newObj_type (wpAny_pure ⟨_, rfl, wpAny_pure h⟩) hok))
end
section
variable {X : Cx}
def tRevT (K : PySem.W.Frag) (te : TE) : TE := fun σ H Q => te σ H fun x H1 =>
  ∃ a xs, x = .ref a ∧ SqT K H1 a xs ∧ ∀ p, H1 p = none → Q (.ref p) (upd H1 p (.tup xs.reverse))
theorem pe_revT {e : Expr} {te : TE} {k : Nat} {p1 p2 p3 pos : Pos} (he : PE X e te) :
    PE X (.Subscript e (.Slice none none (some (.UnaryOp .USub (.Constant (.int 1) k p1) p2)) p3) pos) (tRevT X.K te) := by
  constructor
  intro pins s σ H Q I h
  refine Subscript_ (thn (he.run pins s σ H _ I h) ?_)
  rintro v s1 ⟨x, H1, I1, r1, a, xs, rfl, hx, q⟩
  cases r1
  have hst : PO X (some (.UnaryOp .USub (.Constant (.int 1) k p1) p2)) (tPart (tUn (rU fun i => .int (-i)) (tC (.int 1)))) := po_some (pe_un un_neg pe_int)
  refine wpAny_Slice (thn (po_none.run pins s1 σ H1 (fun o H2 => o = none ∧ H2 = H1) I1 ⟨rfl, rfl⟩) ?_)
  rintro vl s2 ⟨l, H2, I2, pl, rfl, rfl⟩
  refine thn (po_none.run pins s2 σ H2 (fun o H3 => o = none ∧ H3 = H2) I2 ⟨rfl, rfl⟩) ?_
  rintro vu s3 ⟨u, H3, I3, pu, rfl, rfl⟩
  refine thn (hst.run pins s3 σ H3 (fun o H4 => o = some (-1) ∧ H4 = H3) I3 ⟨1, rfl, -1, rfl, rfl, rfl⟩) ?_
  rintro vs s4 ⟨o, H4, I4, ps, rfl, rfl⟩
  cases pl
  cases pu
  have I5 : Inv X pins σ H4 { s4 with heap := s4.heap.push { cls := .type "slice", data := .fields #[.none, .none, vs] } } :=
    I4.kept (t' := s4.toks) fun b ob q => Heap.get?_push_of_some _ q
  obtain ⟨its, r, ht, hz⟩ := I5.tuple hx
  show wpAny (model X.prog X.w) X.A (subscriptTail e (.Slice none none (some (.UnaryOp .USub (.Constant (.int 1) k p1) p2)) p3) (.ref a) (.ref s4.heap.objs.size)) (EP X pins σ Q) X.xe { s4 with heap := s4.heap.push { cls := .type "slice", data := .fields #[.none, .none, vs] } }
  refine tail_any (ops := [.ref a, .ref s4.heap.objs.size]) ht.typeIs (PyProof.Rows.slot_tuple_getitem.lookup) ?_ (by with_unfolding_all rfl)
  refine getItem_tuple_rev ht (Heap.IsSliceOf.new _ .none .none vs) ps ?_ (by rw [List.size_toArray, ← r.length]; exact hz)
  refine ⟨.ref _, _, I5.laid (t' := s4.toks) (o := .tup xs.reverse) (fun b ob q => Heap.get?_push_of_some _ q) (Nat.le_refl _) ?_, rfl, q _ (I5.hok.fresh (Nat.le_refl _))⟩
  exact ⟨by rw [List.length_reverse]; exact hz, _, r.reverse, IsTup.new _ _⟩
end

/-! ### heaps: all but some objects stay -/
def But (l : List Addr) (H H' : Hp) : Prop := ∀ b o, b ∉ l → H b = some o → H' b = some o
theorem But.refl (l : List Addr) (H : Hp) : But l H H := fun _ _ _ h => h
theorem But.trans {l : List Addr} {H H1 H2 : Hp} (a : But l H H1) (b : But l H1 H2) : But l H H2 := fun c o n h => b c o n (a c o n h)
theorem But.mono {l m : List Addr} {H H1 : Hp} (a : But l H H1) (h : ∀ b ∈ l, b ∈ m) : But m H H1 := fun c o n e => a c o (fun z => n (h c z)) e
theorem But.of {H H1 : Hp} (l : List Addr) (a : Same H H1) : But l H H1 := fun c o _ h => a c o h
theorem But.nil {H H1 : Hp} (a : But [] H H1) : Same H H1 := fun c o h => a c o (by simp) h
theorem But.new {l : List Addr} {H H1 : Hp} {p : Addr} {o : HO} (a : But l H H1) (h : H1 p = none) : But l H (upd H1 p o) := fun c u n e => by
  have q := a c u n e
  rw [upd_ne (ne_of_none q h)]; exact q
theorem But.set {l : List Addr} {H H1 : Hp} {p : Addr} {o : HO} (a : But l H H1) (h : p ∈ l) : But l H (upd H1 p o) := fun c u n e => by
  have q : c ≠ p := fun z => n (by rw [z]; exact h)
  rw [upd_ne q]; exact a c u n e
theorem But.fresh {l : List Addr} {H H1 : Hp} {p : Addr} (a : But l H H1) (h : H1 p = none) (n : p ∉ l) : H p = none := by
  cases q : H p with
  | none => rfl
  | some o => rw [a p o n q] at h; cases h
theorem same_new {H : Hp} {p : Addr} {o : HO} (h : H p = none) : Same H (upd H p o) := fun c u e => by rw [upd_ne (ne_of_none e h)]; exact e
theorem same_add {H H1 : Hp} {p : Addr} {o : HO} (a : Same H H1) (h : H1 p = none) : Same H (upd H1 p o) := fun c u e => same_new h c u (a c u e)
theorem But.sq {l : List Addr} {K : PySem.W.Frag} {H H' : Hp} {a : Addr} {xs : List V} (e : But l H H') (n : a ∉ l) (h : SqL K H a xs) : SqL K H' a xs := by
  rcases h with (h | ⟨o, h⟩) | h
  · exact .inl (.inl (e _ _ n h))
  · exact .inl (.inr ⟨o, e _ _ n h⟩)
  · exact .inr h
theorem But.get {l : List Addr} {H H' : Hp} {a : Addr} {o : HO} (e : But l H H') (n : a ∉ l) (h : H a = some o) : H' a = some o := e a o n h
theorem nin1 {a b : Addr} (h : a ≠ b) : a ∉ [b] := by simpa using h
theorem nin2 {a b c : Addr} (h : a ≠ b) (h2 : a ≠ c) : a ∉ [b, c] := by simp [h, h2]
/-- where a test is decided -/
theorem iteD {p A B : Prop} [Decidable p] (h1 : p → A) (h2 : ¬ p → B) : if decide p = true then A else B := by
  by_cases h : p
  · rw [if_pos (decide_eq_true h)]; exact h1 h
  · rw [if_neg (by rw [decide_eq_false h]; exact Bool.false_ne_true)]; exact h2 h
theorem iteN {p A B : Prop} [Decidable p] (h1 : ¬ p → A) (h2 : p → B) : if (!decide p) = true then A else B := by
  by_cases h : p
  · rw [decide_eq_true h]; exact iteF (h2 h)
  · rw [decide_eq_false h]; exact iteT (h1 h)
theorem iteDT {p A B : Prop} [Decidable p] (hp : p) (h1 : A) : if decide p = true then A else B := by rw [if_pos (decide_eq_true hp)]; exact h1
theorem iteDF {p A B : Prop} [Decidable p] (hp : ¬ p) (h1 : B) : if decide p = true then A else B := by rw [if_neg (by rw [decide_eq_false hp]; exact Bool.false_ne_true)]; exact h1
theorem iteNF {p A B : Prop} [Decidable p] (hp : p) (h1 : B) : if (!decide p) = true then A else B := by rw [decide_eq_true hp]; exact iteF h1
theorem iteNT {p A B : Prop} [Decidable p] (hp : ¬ p) (h1 : A) : if (!decide p) = true then A else B := by rw [decide_eq_false hp]; exact iteT h1
theorem mapI_get {ns : List Int} {i : Nat} {y : V} (h : (ns.map V.int)[i]? = some y) : ∃ z, ns[i]? = some z ∧ y = V.int z := by
  rw [List.getElem?_map] at h
  cases e : ns[i]? with
  | none => rw [e] at h; cases h
  | some z => rw [e] at h; exact ⟨z, rfl, (Option.some.inj h).symm⟩
theorem get_lt {α : Type} {l : List α} {i : Nat} {x : α} (h : l[i]? = some x) : i < l.length := (List.getElem?_eq_some_iff.mp h).1
/-- zip of two tuples -/
theorem walk_zipT {K : PySem.W.Frag} {a b : Addr} {xs ys : List V} {n : Nat} (hn : n = min xs.length ys.length) :
    Walk (RZ.ItzT K a b) n (fun H => SqT K H a xs ∧ SqT K H b ys) (YPair (fun i => xs[i]?) (fun i => ys[i]?)) := by
  subst hn
  refine ⟨?_, ?_, ?_⟩
  · intro i H hi q
    have h1 : i < xs.length := by omega
    have h2 : i < ys.length := by omega
    exact ⟨xs, ys, xs[i], ys[i], q.1, q.2, by simp [h1], by simp [h2]⟩
  · intro H q
    exact ⟨xs, ys, q.1, q.2, by omega⟩
  · rintro i H v H' hi q ⟨T, x, z, h1, h2, h3, h4, h5⟩
    exact ⟨T, x, z, h1, h2, h3, h4 xs q.1, h5 ys q.2⟩
theorem sqT_of {K : PySem.W.Frag} {H : Hp} {a : Addr} {xs : List V} (h : H a = some (.tup xs)) : SqT K H a xs := SqT.of h

theorem cut_tail (xs : List V) : cutV xs (some 1) none = xs.tail := by
  cases xs with
  | nil => rfl
  | cons x r =>
    show ((x :: r).drop (HT.sIx (r.length + 1) 0 (some ((1 : Nat) : Int)))).take (HT.sIx (r.length + 1) (r.length + 1) none - HT.sIx (r.length + 1) 0 (some ((1 : Nat) : Int))) = r
    rw [HT.sIx_nat, HT.sIx_none, Nat.min_eq_left (by omega), List.drop_one]
    show r.take (r.length + 1 - 1) = r
    exact List.take_of_length_le (by omega)
theorem not_whole1 {xs : List V} (h : 0 < xs.length) : ¬ (HT.sIx xs.length 0 (some 1) = 0 ∧ HT.sIx xs.length xs.length none = xs.length) := by
  rintro ⟨q, _⟩
  rw [show (1 : Int) = ((1 : Nat) : Int) from rfl, HT.sIx_nat, Nat.min_eq_left (by omega)] at q
  cases q
theorem sIx_none0 (n d : Nat) : HT.sIx n d none = d := rfl
theorem cut_take (xs : List V) (n : Nat) : cutV xs none (some (n : Int)) = xs.take n := by
  unfold cutV
  rw [HT.sIx_nat, HT.sIx_none, List.drop_zero, Nat.sub_zero]
  by_cases h : n ≤ xs.length
  · rw [Nat.min_eq_left h]
  · rw [Nat.min_eq_right (by omega), List.take_of_length_le (Nat.le_refl _), List.take_of_length_le (by omega)]
theorem sum_take_more {l : List Int} {i : Nat} {z : Int} (h : l[i]? = some z) : (l.take (i + 1)).sum = (l.take i).sum + z := sum_take h
theorem cut_ints (ns : List Int) (n : Nat) : cutV (ns.map V.int) none (some (n : Int)) = (ns.take n).map V.int := by rw [cut_take, List.map_take]
theorem atI_mem {α : Type} {xs : List α} {i : Int} (h0 : 0 ≤ i) (h1 : i < xs.length) : ∃ v, atI xs i = some v ∧ v ∈ xs := by
  have e : i = ((i.toNat : Nat) : Int) := by omega
  have hl : i.toNat < xs.length := by omega
  refine ⟨xs[i.toNat], ?_, List.getElem_mem hl⟩
  have q := atI_nat (List.getElem?_eq_getElem hl)
  rw [← e] at q
  exact q
theorem atI_neg1 {α : Type} {xs : List α} (h : xs ≠ []) : ∃ v, atI xs (-1) = some v ∧ xs[xs.length - 1]? = some v := by
  obtain ⟨ys, z, rfl⟩ : ∃ ys z, xs = ys ++ [z] := by
    cases q : xs.reverse with
    | nil => exact absurd (List.reverse_eq_nil_iff.mp q) h
    | cons z r => exact ⟨r.reverse, z, by rw [← List.reverse_reverse xs, q, List.reverse_cons]⟩
  exact ⟨z, atI_last _ _, by simp⟩
theorem But.to {l : List Addr} {H H1 : Hp} {p : Addr} {o : HO} (a : But l H H1) (h : H p = none) : But l H (upd H1 p o) := fun c u n e => by
  rw [upd_ne (ne_of_none e h)]; exact a c u n e
theorem updNe {H : Hp} {a b : Addr} {o u : HO} (h : H b = none) (e : H a = some u) : upd H b o a = some u := by rw [upd_ne (ne_of_none e h)]; exact e
theorem same_to {H H1 : Hp} {p : Addr} {o : HO} (a : Same H H1) (h : H p = none) : Same H (upd H1 p o) := fun c u e => by
  rw [upd_ne (ne_of_none e h)]; exact a c u e
theorem take_snoc {α : Type} {l : List α} {i : Nat} {x : α} (h : l[i]? = some x) : l.take (i + 1) = l.take i ++ [x] := by
  have hi := get_lt h
  rw [List.getElem?_eq_getElem hi] at h
  rw [← Option.some.inj h]
  exact (List.take_append_getElem hi).symm
theorem map_get {α β : Type} {f : α → β} {l : List α} {i : Nat} {x : α} (h : l[i]? = some x) : (l.map f)[i]? = some (f x) := by rw [List.getElem?_map, h]; rfl
theorem same_but {H H1 H2 : Hp} {p : Addr} (s : Same H H1) (n : H p = none) (b : But [p] H1 H2) : Same H H2 := fun c u e =>
  b c u (nin1 (ne_of_none e n)) (s c u e)
theorem shown_small {d : PyData} (h : d.leavesShort 2000 = true) (hb : d.bulk ≤ 8000) : d.shown.length ≤ sizeLine := by
  have q := PyData.shown_le_bulk 2000 (by decide) d h
  have e : (2000 + 2) * d.bulk ≤ 2002 * 8000 := Nat.mul_le_mul_left 2002 hb
  rw [sizeLine_eq]
  omega
theorem int_short {i : Int} (h : i.natAbs.log2 < 1920) : (PyData.int i).leavesShort 2000 = true := by
  simp only [PyData.leavesShort, decide_eq_true_eq]
  exact Nat.le_trans (PyProof.Rows.int_text_len_1921 h) (by decide)
theorem log_small {i : Int} {k : Nat} (h : i.natAbs < 2 ^ k) (h0 : 0 < k) (hk : k ≤ 1920) : i.natAbs.log2 < 1920 := Nat.lt_of_lt_of_le (PySem.Flt.log2_lt_of h0 h) hk
theorem room150 {k : Nat} {A : Around} (r : Room k A) : A.units + 150 < cLine := by have := r.un; omega
/-! ### within a comprehension's block -/
section
variable {X : Cx} {s : Shared} {H : Hp} {sc : Scope} {env : Env} {fp : List Addr}
theorem ix_tupB : IxR (X.blk s H sc env fp) (rIxT X.K) := ix_tup
theorem ix_listB : IxR (X.blk s H sc env fp) (rIxL X.K) := ix_list
theorem sl_listB : SlR (X.blk s H sc env fp) (rSlL X.K) := sl_list
theorem sl_tupB : SlR (X.blk s H sc env fp) (rSlT X.K) := sl_tup
theorem sl_tupAB : SlR (X.blk s H sc env fp) (rSlA X.K) := sl_tupA
theorem pg_tupB {es : List Expr} {k : Nat} {t : TGs} {n : Nat} {pos : Pos} (hc : X.calm = true) (h : PGs (X.blk s H sc env fp) es t)
    (hn : (assignEach es env).length = n := by rfl) (hst : (assignEach es env).findIdx? (·.1) = none := by rfl) :
    PG (X.blk s H sc env fp) (.Tuple es k pos) (gTup X.K n t) := pg_tup (X := X.blk s H sc env fp) hc h hn hst
theorem op_eqDB (hu : X.A.units + 64 < cLine) : OpR (X.blk s H sc env fp) (compareOp .Eq) (rEqD X.K) := op_eqD hu
theorem op_neDB (hu : X.A.units + 64 < cLine) : OpR (X.blk s H sc env fp) (compareOp .NotEq) (rNeD X.K) := op_neD hu
end
/-! ### cuts: what is known in the middle -/
section
variable {X : Cx} {e : Expr} {st : Stmt} {sts : List Stmt} {t : TE} {u : TS}
def eCut (t : TE) : TE := fun σ H Q => ∃ R : VK, t σ H R ∧ ∀ v H', R v H' → Q v H'
theorem pe_cut (h : PE X e t) : PE X e (eCut t) := ⟨fun pins s σ H Q I ⟨R, h1, h2⟩ =>
  thn (h.run pins s σ H R I h1) fun _ _ ⟨v, H', I', r, q⟩ => ⟨v, H', I', r, h2 v H' q⟩⟩
def sCut (t : TS) : TS := fun D σ H => ∃ R : L2.St → Hp → Prop, t { D with nx := R } σ H ∧ ∀ σ' H', R σ' H' → D.nx σ' H'
theorem sp_next {pins : List (Addr × Obj)} {D : Ends} {R : L2.St → Hp → Prop} (h2 : ∀ σ' H', R σ' H' → D.nx σ' H') {f : Flow} {s : Shared}
    (h : SP X pins { D with nx := R } f s) : SP X pins D f s := by
  cases f with
  | next => obtain ⟨σ', H', I', q⟩ := h; exact ⟨σ', H', I', h2 σ' H' q⟩
  | ret v => exact h
  | brk => exact h
  | cont => exact h
theorem ps_cut (h : PS X st u) : PS X st (sCut u) := ⟨fun pins s σ H D I ⟨R, h1, h2⟩ =>
  thn (h.run pins s σ H { D with nx := R } I h1) fun _ _ q => sp_next h2 q⟩
end
/-- what a reading step does not look into -/
structure Box (p : Prop) : Prop where
  t : True
  out : p
theorem Box.of {p : Prop} (h : p) : Box p := ⟨trivial, h⟩
theorem pip_of {X : Cx} {op : Operator} {r : R2} (h : OpR X (inplaceOp op) r) : PIp X op r := h

/-! ### repr of data -/
section
variable {X : Cx}
theorem call_repr_data (hg : X.A.guards = some []) (hu : X.A.units + 150 < cLine) : CallR X (.builtin "repr") (fun xs H Q =>
    ∃ a d, xs = [.ref a] ∧ Dp X.K H (.ref a) d ∧ d.showable = true ∧ SeqAt.shaped d = true ∧ d.shown.length ≤ sizeLine ∧ Q (.str d.shown) H) := by
  intro pins s σ H xs us Q I r h
  obtain ⟨a, d, rfl, hd, hs, hsh, hz, q⟩ := h
  obtain ⟨u, rfl, ru⟩ := vals1 r
  obtain rfl : u = Value.ref a := ru
  obtain ⟨as, rd⟩ := Dp.reads I d (.ref a) (.ref a) hd rfl
  have hnd : d.hasDict = true → sysModules ∉ as := PyData.noDict_hsm (PyData.hasDict_of_canLay d (SeqAt.canLay_of_shaped hsh))
  have hdp := SeqAt.depth_of_shaped hsh
  refine repr_of_reads' rd hs hnd hg (by omega) (fun _ _ q => q) (fun h' u tk hk => ?_) hz
  exact ⟨.str _, H, I.kept hk, ⟨_, rfl⟩, q⟩
end
end Lay

set_option Elab.async false
set_option linter.all false
set_option maxRecDepth 100000
set_option maxHeartbeats 2000000
namespace Lay
open PySem PySem.Spec PyProof.Rows L2

/-! ### methods -/
structure Method (P : Program) (w : World) (K : PySem.W.Frag) (mg : Str → Option Value) (base : Heap)
    (CX : CXT) (k : Nat) (C : Addr) (m : Str) (D : Addr → FuncData → Prop) (ps : List Str) (sp : Sp) : Prop where
  ex : ∃ (f : Addr) (fd : FuncData), Cls K C ∧ Meth K C m f ∧ D f fd ∧ Binds K fd ps [] ∧ FnG P w K mg base CX k f fd ps sp
/-- x = C(..) as its callers see it -/
structure Maker (P : Program) (w : World) (K : PySem.W.Frag) (mg : Str → Option Value) (base : Heap)
    (CX : CXT) (k : Nat) (x : Str) (C : Addr) (D : Addr → FuncData → Prop) (ps : List Str) (sp : Sp) : Prop where
  ex : ∃ (f : Addr) (fd : FuncData), mg x = some (.ref C) ∧ Mk K C f ∧ D f fd ∧ Binds K fd ps [] ∧ FnG P w K mg base CX k f fd ps sp
def tMethE (C : Addr) (m : Str) (sp : Sp) (E : L2.St → XK) (ta : TE) (t : TA) : TE := fun σ H Q => ta σ H fun x H1 =>
  ∃ a dx fs, x = .ref a ∧ H1 a = some (.ins C dx fs) ∧ fs.lookup m = none ∧ t σ H1 fun vs H2 => sp (x :: vs) H2 Q (E σ)
def tMethKw (C : Addr) (m : Str) (n mm : Nat) (sp : Sp) (gV : List V → List V → List V) (E : L2.St → XK) (ta : TE) (t tk : TA) : TE := fun σ H Q => ta σ H fun x H1 =>
  ∃ a dx fs, x = .ref a ∧ H1 a = some (.ins C dx fs) ∧ fs.lookup m = none ∧ t σ H1 fun vs H2 => tk σ H2 fun zs H3 => vs.length = n ∧ zs.length = mm ∧ sp (gV (x :: vs) zs) H3 Q (E σ)
def tMakeE (C : Addr) (sp : Sp) (E : L2.St → XK) (t : TA) : TE := fun σ H Q => t σ H fun vs H1 => ∀ x dx, H1 x = none → H1 dx = none → dx ≠ x →
  sp (.ref x :: vs) (upd (upd H1 dx (.own x)) x (.ins C dx [])) (fun v H2 => v = .non ∧ Q (.ref x) H2) (E σ)
def tMakeKw (C : Addr) (n m : Nat) (sp : Sp) (gV : List V → List V → List V) (E : L2.St → XK) (t tk : TA) : TE := fun σ H Q =>
  t σ H fun vs H1 => tk σ H1 fun zs H2 => vs.length = n ∧ zs.length = m ∧ ∀ x dx, H2 x = none → H2 dx = none → dx ≠ x →
    sp (gV (.ref x :: vs) zs) (upd (upd H2 dx (.own x)) x (.ins C dx [])) (fun v H3 => v = .non ∧ Q (.ref x) H3) (E σ)

section
variable {X : Cx} {CX : CXT} {j k n : Nat} {C : Addr} {m x : Str} {D : Addr → FuncData → Prop} {ps ks : List Str} {sp : Sp} {E : L2.St → XK} {o e : Expr} {es : List Expr}
  {kws : List Keyword} {ta : TE} {t tk : TA} {apos pos p : Pos} {pl : Sem Bool} {f : Addr} {fd : FuncData}
  {g : List Value → List Value → List Value} {gV : List V → List V → List V}
theorem backS {pins : List (Addr × Obj)} {σ : L2.St} {H : Hp} {s : Shared} {Q : VK} {E : XK} (hx : PassesAt CX X σ E) (I : Inv X pins σ H s)
    {r : Result} {s' : Shared} (hq : CR CX X.stack X.prog X.w H s Q E r s') :
    (match r with | .ok (.ret u) => EP X pins σ Q u s' | .ok _ => False | .error e => X.xe e s') := by
  cases r with
  | error e => exact hx pins H s e s' I hq
  | ok fl =>
    cases fl with
    | ret u => exact I.after hq
    | next => exact hq
    | brk => exact hq
    | cont => exact hq
theorem gcallS {pins : List (Addr × Obj)} {σ : L2.St} {H : Hp} {s : Shared} {Q : VK} {E : XK} {args : Args} {us : List Value} {vs : List V}
    (F : FnG X.prog X.w X.K X.mg X.base CX k f fd ps sp) (hr : Room k X.A) (hg : X.A.guards = some [])
    (hb : BindsTo s fd args (ps.zip us)) (hx : PassesAt CX X σ E) (I : Inv X pins σ H s) (r : Vals vs us) (h : sp vs H Q E) :
    wpAny (model X.prog X.w) X.A (call (.ref f) args.pos args.kw) (EP X pins σ Q) X.xe s := by
  obtain ⟨ap, ak⟩ := args
  refine wpAny_call (codeAny_mono (F.go X.A X.stack s H ⟨ap, ak⟩ us vs Q E hr hg I.env0 hb r h) ?_)
  intro r s' hq
  have z := backS hx I hq
  cases r with
  | error e => exact z
  | ok fl =>
    cases fl with
    | ret u => exact z
    | next => exact z.elim
    | brk => exact z.elim
    | cont => exact z.elim
theorem atAll {E : XK} (h : Passes CX X E) (σ : L2.St) : PassesAt CX X σ E := fun pins H s e s' I c => h pins σ H s e s' I c

/-- o.m(e, ..) -/
theorem Method.methE (M : Method X.prog X.w X.K X.mg X.base CX k C m D ps sp) (he : PE X o ta) (hr : Room j X.A) (hg : X.A.guards = some [])
    (hx : ∀ σ, PassesAt CX X σ (E σ)) (ha : PA X (e :: es) t) (hj : k ≤ j := by decide)
    (hst : starEach (e :: es) X.env = (false, eval e X.env) :: starEach es X.env := by rfl) (hpl : (backTo pos (starEach es X.env)).any (·.1) = false := by rfl)
    (ht : eval (.Call (.Attribute o m apos) (e :: es) [] pos) X.env = (do
      let ov ← eval o X.env
      standAt apos.atName
      let (f, first) ← holding [ov] (getMethod ov m pl)
      callWith pos f first (backTo pos (starEach (e :: es) X.env)) (backToKw pos (keywordEach [] X.env))) := by rfl) :
    PE X (.Call (.Attribute o m apos) (e :: es) [] pos) (tMethE C m sp E ta t) := by
  obtain ⟨f, fd, c, hm, F, b, G⟩ := M.ex
  constructor
  intro pins s σ H Q I h
  refine PySem.W.methodCall_KW (pl := pl) (thn (he.run pins s σ H _ I h) ?_) ht
  rintro u s1 ⟨x, H1, I1, rx, a, dx, fs, rfl, ea, l, z⟩
  obtain rfl : u = Value.ref a := rx
  refine getmeth_ok I1 ea c hm l ?_
  refine PySem.W.callWith_K (first := [.ref a]) (h₀ := X.base) I.ok.mod.kin hm.kp (thn (ha.run pos pins s1 σ H1 _ I1 z) ?_) hst hpl
  rintro us s2 ⟨vs, H2, I2, r, z2⟩
  refine ⟨I2.kIn, ?_⟩
  have r2 : Vals (V.ref a :: vs) (Value.ref a :: us) := .cons rfl r
  have hl : (Value.ref a :: us).length = ps.length := by rw [← r2.length]; exact G.ln _ _ _ _ z2
  have bb := b s2 (.ref a :: us) I2.kIn (by rw [List.append_nil]; exact hl)
  rw [List.append_nil] at bb
  exact gcallS (args := ⟨.ref a :: us, []⟩) G (hr.mono hj) hg bb (hx σ) I2 r2 z2
/-- o.m() -/
theorem Method.methE0 (M : Method X.prog X.w X.K X.mg X.base CX k C m D ps sp) (he : PE X o ta) (hr : Room j X.A) (hg : X.A.guards = some [])
    (hx : ∀ σ, PassesAt CX X σ (E σ)) (hj : k ≤ j := by decide)
    (ht : eval (.Call (.Attribute o m apos) [] [] pos) X.env = (do
      let ov ← eval o X.env
      standAt apos.atName
      let (f, first) ← holding [ov] (getMethod ov m pl)
      callWith pos f first (backTo pos (starEach [] X.env)) (backToKw pos (keywordEach [] X.env))) := by rfl) :
    PE X (.Call (.Attribute o m apos) [] [] pos) (tMethE C m sp E ta tNil) := by
  obtain ⟨f, fd, c, hm, F, b, G⟩ := M.ex
  constructor
  intro pins s σ H Q I h
  refine PySem.W.methodCall_KW (pl := pl) (thn (he.run pins s σ H _ I h) ?_) ht
  rintro u s1 ⟨x, H1, I1, rx, a, dx, fs, rfl, ea, l, z⟩
  obtain rfl : u = Value.ref a := rx
  refine getmeth_ok I1 ea c hm l ?_
  have r2 : Vals [V.ref a] [Value.ref a] := .cons rfl .nil
  have hl : [Value.ref a].length = ps.length := by rw [← r2.length]; exact G.ln _ _ _ _ z
  have bb := b s1 [.ref a] I1.kIn (by rw [List.append_nil]; exact hl)
  rw [List.append_nil] at bb
  exact PySem.W.callWith_K0 (first := [.ref a]) I1.kIn hm.kp (gcallS (args := ⟨[.ref a], []⟩) G (hr.mono hj) hg bb (hx σ) I1 r2 z)
theorem Method.meth (M : Method X.prog X.w X.K X.mg X.base CX0 k C m D ps sp) (he : PE X o ta) (hr : Room j X.A) (hg : X.A.guards = some [])
    (ha : PA X (e :: es) t) (hj : k ≤ j := by decide)
    (hst : starEach (e :: es) X.env = (false, eval e X.env) :: starEach es X.env := by rfl) (hpl : (backTo pos (starEach es X.env)).any (·.1) = false := by rfl)
    (ht : eval (.Call (.Attribute o m apos) (e :: es) [] pos) X.env = (do
      let ov ← eval o X.env
      standAt apos.atName
      let (f, first) ← holding [ov] (getMethod ov m pl)
      callWith pos f first (backTo pos (starEach (e :: es) X.env)) (backToKw pos (keywordEach [] X.env))) := by rfl) :
    PE X (.Call (.Attribute o m apos) (e :: es) [] pos) (tMethE C m sp (fun _ => E0) ta t) := M.methE he hr hg (atAll pass0) ha hj hst hpl ht
theorem Method.meth0 (M : Method X.prog X.w X.K X.mg X.base CX0 k C m D ps sp) (he : PE X o ta) (hr : Room j X.A) (hg : X.A.guards = some [])
    (hj : k ≤ j := by decide)
    (ht : eval (.Call (.Attribute o m apos) [] [] pos) X.env = (do
      let ov ← eval o X.env
      standAt apos.atName
      let (f, first) ← holding [ov] (getMethod ov m pl)
      callWith pos f first (backTo pos (starEach [] X.env)) (backToKw pos (keywordEach [] X.env))) := by rfl) :
    PE X (.Call (.Attribute o m apos) [] [] pos) (tMethE C m sp (fun _ => E0) ta tNil) := M.methE0 he hr hg (atAll pass0) hj ht
/-- o.m(k = v, ..) -/
theorem Method.methKw0 (M : Method X.prog X.w X.K X.mg X.base CX k C m D ps sp)
    (hb : ∀ (f : Addr) (fd : FuncData), D f fd → KwB X.K fd ps 1 ks g gV) (he : PE X o ta) (hr : Room j X.A) (hg : X.A.guards = some [])
    (hx : ∀ σ, PassesAt CX X σ (E σ)) (hkw : PK X kws tk) (hj : k ≤ j := by decide)
    (hall : (backToKw pos (keywordEach kws X.env)).all (·.1.isSome) = true := by rfl)
    (hks : (backToKw pos (keywordEach kws X.env)).filterMap (·.1) = ks := by rfl)
    (hpl : ((backTo pos (starEach [] X.env)).any (·.1) || (backToKw pos (keywordEach kws X.env)).any (·.1.isNone)) = false := by rfl)
    (ht : eval (.Call (.Attribute o m apos) [] kws pos) X.env = (do
      let ov ← eval o X.env
      standAt apos.atName
      let (f, first) ← holding [ov] (getMethod ov m pl)
      callWith pos f first (backTo pos (starEach [] X.env)) (backToKw pos (keywordEach kws X.env))) := by rfl) :
    PE X (.Call (.Attribute o m apos) [] kws pos) (tMethKw C m 0 ks.length sp gV E ta tNil tk) := by
  obtain ⟨f, fd, c, hm, F, b, G⟩ := M.ex
  constructor
  intro pins s σ H Q I h
  refine PySem.W.methodCall_KW (pl := pl) (thn (he.run pins s σ H _ I h) ?_) ht
  rintro u s1 ⟨x, H1, I1, rx, a, dx, fs, rfl, ea, l, z⟩
  obtain rfl : u = Value.ref a := rx
  refine getmeth_ok I1 ea c hm l ?_
  refine PySem.W.callWith_KW0 (first := [.ref a]) (h₀ := X.base) I.ok.mod.kin hm.kp hall ?_ hpl
  refine thn (hkw.run pos pins s1 σ H1 _ I1 z) ?_
  rintro ws s2 ⟨zs, H2, I2, rz, l1, l2, q2⟩
  refine ⟨I2.kIn, ?_⟩
  rw [hks]
  have kb := hb f fd F
  exact gcallS (args := ⟨[.ref a], ks.zip ws⟩) G (hr.mono hj) hg (kb.to s2 [.ref a] ws I2.kIn rfl (by rw [← rz.length]; exact l2)) (hx σ) I2
    (kb.rel [.ref a] zs [.ref a] ws rfl l2 (.cons rfl .nil) rz) q2
/-- o.m(e, .., k = v, ..) -/
theorem Method.methKw (M : Method X.prog X.w X.K X.mg X.base CX k C m D ps sp)
    (hb : ∀ (f : Addr) (fd : FuncData), D f fd → KwB X.K fd ps (n + 1) ks g gV) (he : PE X o ta) (hr : Room j X.A) (hg : X.A.guards = some [])
    (hx : ∀ σ, PassesAt CX X σ (E σ)) (ha : PA X (e :: es) t) (hkw : PK X kws tk) (hj : k ≤ j := by decide)
    (hall : (backToKw pos (keywordEach kws X.env)).all (·.1.isSome) = true := by rfl)
    (hks : (backToKw pos (keywordEach kws X.env)).filterMap (·.1) = ks := by rfl)
    (hst : starEach (e :: es) X.env = (false, eval e X.env) :: starEach es X.env := by rfl)
    (hpl : ((backTo pos (starEach (e :: es) X.env)).any (·.1) || (backToKw pos (keywordEach kws X.env)).any (·.1.isNone)) = false := by rfl)
    (ht : eval (.Call (.Attribute o m apos) (e :: es) kws pos) X.env = (do
      let ov ← eval o X.env
      standAt apos.atName
      let (f, first) ← holding [ov] (getMethod ov m pl)
      callWith pos f first (backTo pos (starEach (e :: es) X.env)) (backToKw pos (keywordEach kws X.env))) := by rfl) :
    PE X (.Call (.Attribute o m apos) (e :: es) kws pos) (tMethKw C m n ks.length sp gV E ta t tk) := by
  obtain ⟨f, fd, c, hm, F, b, G⟩ := M.ex
  constructor
  intro pins s σ H Q I h
  refine PySem.W.methodCall_KW (pl := pl) (thn (he.run pins s σ H _ I h) ?_) ht
  rintro u s1 ⟨x, H1, I1, rx, a, dx, fs, rfl, ea, l, z⟩
  obtain rfl : u = Value.ref a := rx
  refine getmeth_ok I1 ea c hm l ?_
  refine PySem.W.callWith_KW (first := [.ref a]) (h₀ := X.base) I.ok.mod.kin hm.kp hall (thn (ha.run pos pins s1 σ H1 _ I1 z) ?_) hpl hst
  rintro us s2 ⟨vs, H2, I2, r, z2⟩
  refine thn (hkw.run pos pins s2 σ H2 _ I2 z2) ?_
  rintro ws s3 ⟨zs, H3, I3, rz, l1, l2, q2⟩
  refine ⟨I3.kIn, ?_⟩
  rw [hks]
  have kb := hb f fd F
  exact gcallS (args := ⟨.ref a :: us, ks.zip ws⟩) G (hr.mono hj) hg (kb.to s3 (.ref a :: us) ws I3.kIn (by rw [List.length_cons, ← r.length, l1]) (by rw [← rz.length]; exact l2)) (hx σ) I3
    (kb.rel (.ref a :: vs) zs (.ref a :: us) ws (by rw [List.length_cons, l1]) l2 (.cons rfl r) rz) q2

/-- C(e, ..) -/
theorem gmake {pins : List (Addr × Obj)} {σ : L2.St} {H : Hp} {s : Shared} {Q : VK} {E : XK} {us : List Value} {kw : List (Str × Value)} {vs : List V} {wz : Value → List Value} {vz : V → List V}
    (M : Mk X.K C f) (F : FnG X.prog X.w X.K X.mg X.base CX k f fd ps sp) (hr : Room (k + 1) X.A) (hg : X.A.guards = some [])
    (hb : ∀ (s : Shared) (a : Addr), X.K.In s.heap → BindsTo s fd ⟨.ref a :: us, kw⟩ (ps.zip (wz (.ref a)))) (hx : PassesAt CX X σ E)
    (I : Inv X pins σ H s) (r : ∀ a : Addr, Vals (vz (.ref a)) (wz (.ref a)))
    (h : ∀ x dx, H x = none → H dx = none → dx ≠ x → sp (vz (.ref x)) (upd (upd H dx (.own x)) x (.ins C dx [])) (fun v H2 => v = .non ∧ Q (.ref x) H2) E) :
    wpAny (model X.prog X.w) X.A (call (.ref C) us kw) (EP X pins σ Q) X.xe s := by
  have n1 : H (s.heap.objs.size + 1) = none := I.hok.fresh (Nat.le_succ _)
  have n0 : H s.heap.objs.size = none := I.hok.fresh (Nat.le_refl _)
  have hq := h (s.heap.objs.size + 1) s.heap.objs.size n1 n0 (Nat.ne_of_lt (Nat.lt_succ_self _))
  have I2 := Inv.made (C := C) I
  refine wpAny_call (make_map (f := f) I.kIn M.makes M.init (beq_iff_eq.mp M.fn) (codeAny_mono (F.go _ X.stack _ _ ⟨Value.ref (s.heap.objs.size + 1) :: us, kw⟩ _ _ _ E (hr.make C us kw)
    (guards_make hg) (I2.env0.make C us kw) (hb _ (s.heap.objs.size + 1) I2.kIn) (r _) hq) ?_))
  intro r s' hq'
  have z := backS hx I2 hq'
  cases r with
  | error e => exact z
  | ok fl =>
    cases fl with
    | ret u =>
      obtain ⟨v, H', I3, rv, rfl, q3⟩ := z
      exact ⟨rv, ⟨V.ref (s.heap.objs.size + 1), H', I3, rfl, q3⟩⟩
    | next => exact z.elim
    | brk => exact z.elim
    | cont => exact z.elim
theorem Maker.makeE (M : Maker X.prog X.w X.K X.mg X.base CX k x C D ps sp) (hG : Gl X x) (hr : Room j X.A) (hg : X.A.guards = some [])
    (hx : ∀ σ, PassesAt CX X σ (E σ)) (ha : PA X (e :: es) t) (hj : k + 1 ≤ j := by decide)
    (hdb : (x == ("__debug__" : Str)) = false := by decide) (he : starEach (e :: es) X.env = (false, eval e X.env) :: starEach es X.env := by rfl)
    (hpl : (backTo pos (starEach es X.env)).any (·.1) = false := by rfl) :
    PE X (.Call (.Name x p) (e :: es) [] pos) (tMakeE C sp E t) := by
  obtain ⟨f, fd, hm, hM, F, b, G⟩ := M.ex
  constructor
  intro pins s σ H Q I h
  refine wpAny_Call_Name_kw (ld_glob I hG hm ?_ hdb)
  refine PySem.W.callWith_K (h₀ := X.base) I.ok.mod.kin hM.kp (thn (ha.run pos pins s σ H _ I h) ?_) he hpl
  rintro us s1 ⟨vs, H1, I1, r, z⟩
  refine ⟨I1.kIn, ?_⟩
  have hl : us.length + 1 = ps.length := by
    have z0 := G.ln _ _ _ _ (z (s1.heap.objs.size + 1) s1.heap.objs.size (I1.hok.fresh (Nat.le_succ _)) (I1.hok.fresh (Nat.le_refl _)) (Nat.ne_of_lt (Nat.lt_succ_self _)))
    rw [List.length_cons, r.length] at z0
    exact z0
  refine gmake (vs := vs) (wz := fun a => a :: us) (vz := fun a => a :: vs) hM G (hr.mono hj) hg (fun s a ks => ?_) (hx σ) I1 (fun a => .cons rfl r) z
  have bb := b s (.ref a :: us) ks (by rw [List.append_nil]; exact hl)
  rw [List.append_nil] at bb
  exact bb
theorem Maker.makeKw (M : Maker X.prog X.w X.K X.mg X.base CX k x C D ps sp) (hb : ∀ (f : Addr) (fd : FuncData), D f fd → KwB X.K fd ps (n + 1) ks g gV)
    (hG : Gl X x) (hr : Room j X.A) (hg : X.A.guards = some [])
    (hx : ∀ σ, PassesAt CX X σ (E σ)) (ha : PA X (e :: es) t) (hkw : PK X kws tk) (hj : k + 1 ≤ j := by decide)
    (hall : (backToKw pos (keywordEach kws X.env)).all (·.1.isSome) = true := by rfl)
    (hks : (backToKw pos (keywordEach kws X.env)).filterMap (·.1) = ks := by rfl)
    (hdb : (x == ("__debug__" : Str)) = false := by decide) (he : starEach (e :: es) X.env = (false, eval e X.env) :: starEach es X.env := by rfl)
    (hpl : ((backTo pos (starEach (e :: es) X.env)).any (·.1) || (backToKw pos (keywordEach kws X.env)).any (·.1.isNone)) = false := by rfl) :
    PE X (.Call (.Name x p) (e :: es) kws pos) (tMakeKw C n ks.length sp gV E t tk) := by
  obtain ⟨f, fd, hm, hM, F, b, G⟩ := M.ex
  have kb := hb f fd F
  constructor
  intro pins s σ H Q I h
  refine wpAny_Call_Name_kw (ld_glob I hG hm ?_ hdb)
  refine PySem.W.callWith_KW (h₀ := X.base) I.ok.mod.kin hM.kp hall (thn (ha.run pos pins s σ H _ I h) ?_) hpl he
  rintro us s1 ⟨vs, H1, I1, r, z⟩
  refine thn (hkw.run pos pins s1 σ H1 _ I1 z) ?_
  rintro ws s2 ⟨zs, H2, I2, rz, l1, l2, z2⟩
  refine ⟨I2.kIn, ?_⟩
  rw [hks]
  have n1 : us.length = n := by rw [← r.length]; exact l1
  have n2 : ws.length = ks.length := by rw [← rz.length]; exact l2
  refine gmake (vs := vs) (wz := fun a => g (a :: us) ws) (vz := fun a => gV (a :: vs) zs) hM G (hr.mono hj) hg (fun s a kk => kb.to s (.ref a :: us) ws kk (by rw [List.length_cons, n1]) n2) (hx σ) I2
    (fun a => kb.rel (.ref a :: vs) zs (.ref a :: us) ws (by rw [List.length_cons, l1]) l2 (.cons rfl r) rz) z2
theorem Maker.makeKw0 (M : Maker X.prog X.w X.K X.mg X.base CX k x C D ps sp) (hb : ∀ (f : Addr) (fd : FuncData), D f fd → KwB X.K fd ps 1 ks g gV)
    (hG : Gl X x) (hr : Room j X.A) (hg : X.A.guards = some [])
    (hx : ∀ σ, PassesAt CX X σ (E σ)) (hkw : PK X kws tk) (hj : k + 1 ≤ j := by decide)
    (hall : (backToKw pos (keywordEach kws X.env)).all (·.1.isSome) = true := by rfl)
    (hks : (backToKw pos (keywordEach kws X.env)).filterMap (·.1) = ks := by rfl)
    (hdb : (x == ("__debug__" : Str)) = false := by decide)
    (hpl : ((backTo pos (starEach [] X.env)).any (·.1) || (backToKw pos (keywordEach kws X.env)).any (·.1.isNone)) = false := by rfl) :
    PE X (.Call (.Name x p) [] kws pos) (tMakeKw C 0 ks.length sp gV E tNil tk) := by
  obtain ⟨f, fd, hm, hM, F, b, G⟩ := M.ex
  have kb := hb f fd F
  constructor
  intro pins s σ H Q I h
  refine wpAny_Call_Name_kw (ld_glob I hG hm ?_ hdb)
  refine PySem.W.callWith_KW0 (h₀ := X.base) I.ok.mod.kin hM.kp hall ?_ hpl
  refine thn (hkw.run pos pins s σ H _ I h) ?_
  rintro ws s2 ⟨zs, H2, I2, rz, l1, l2, z2⟩
  refine ⟨I2.kIn, ?_⟩
  rw [hks]
  have n2 : ws.length = ks.length := by rw [← rz.length]; exact l2
  refine gmake (vs := []) (wz := fun a => g [a] ws) (vz := fun a => gV [a] zs) hM G (hr.mono hj) hg (fun s a kk => kb.to s [.ref a] ws kk rfl n2) (hx σ) I2
    (fun a => kb.rel [.ref a] zs [.ref a] ws rfl l2 (.cons rfl .nil) rz) z2
end

/-! ### f(e, ..) of a def that may raise -/
section
variable {X : Cx} {CX : CXT} {j k : Nat} {x : Str} {st : Stmt} {ps : List Str} {sp : Sp} {E : L2.St → XK} {e : Expr} {es : List Expr} {t : TA} {p pos : Pos}
theorem Callee.callE (C : Callee X.prog X.w X.K X.mg X.base CX k x st ps sp) (hG : Gl X x) (hr : Room j X.A) (hg : X.A.guards = some [])
    (hx : ∀ σ, PassesAt CX X σ (E σ)) (ha : PA X (e :: es) t) (hj : k ≤ j := by decide) (hdb : (x == ("__debug__" : Str)) = false := by decide)
    (he : starEach (e :: es) X.env = (false, eval e X.env) :: starEach es X.env := by rfl)
    (hpl : (backTo pos (starEach es X.env)).any (·.1) = false := by rfl) :
    PE X (.Call (.Name x p) (e :: es) [] pos) (tCallS sp E t) := by
  obtain ⟨f, fd, hm, F, b, G⟩ := C.ex
  constructor
  intro pins s σ H Q I h
  refine wpAny_Call_Name_kw (ld_glob I hG hm ?_ hdb)
  refine PySem.W.callWith_K (h₀ := X.base) I.ok.mod.kin F.kp (thn (ha.run pos pins s σ H _ I h) ?_) he hpl
  rintro us s1 ⟨vs, H1, I1, r, z⟩
  refine ⟨I1.kIn, ?_⟩
  have hl : us.length = ps.length := by rw [← r.length]; exact G.ln _ _ _ _ z
  have bb := b s1 us I1.kIn (by rw [List.append_nil]; exact hl)
  rw [List.append_nil] at bb
  exact gcallS (args := ⟨us, []⟩) G (hr.mono hj) hg bb (hx σ) I1 r z
end

/-- an own class: its fields, what isinstance asks -/
structure Own (K : PySem.W.Frag) (C : Addr) (fields : List Str) : Prop where
  cl : Cls K C
  no : ∀ f ∈ fields, NoAttr K C f
  ha : PySem.W.findIn K (.ref C) "__class__" = some (some (.builtin "object.__class__"))
  hn : PySem.W.specialIn K (.builtin "object.__class__") "__get__" = some (some (.builtin "getset_descriptor.__get__"))
  htk : PySem.W.takesIn K (.builtin "object.__class__") = some true
  hm : PySem.W.mroIn K C (.type "object") = some true
theorem Own.ty {K : PySem.W.Frag} {C : Addr} {fields : List Str} (O : Own K C fields) {H : Hp} {a dx : Addr} {fs : List (Str × V)} (e : H a = some (.ins C dx fs)) : TyX K H (.ref a) (.ref C) :=
  .base (.ins e O.cl O.ha O.hn O.htk O.hm)
theorem kit_self {K : PySem.W.Frag} {C : Addr} : PySem.W.kitOne K (.ref C) (.ref C) = some true := by
  unfold PySem.W.kitOne
  rw [if_pos (by simp)]

/-! ### G.__init__(self, ..), G an own exception class without an __init__ of its own -/
section
variable {X : Cx} {e : Expr} {es : List Expr} {ta : TA} {p1 p2 pos : Pos} {x : Str} {C : Addr} {mc : Value}
theorem pe_ginit {pl : Sem Bool} (hg : Gl X x) (hm : X.mg x = some (.ref C)) (sg : PySem.W.specialIn X.K (.ref C) "__getattribute__" = some (some (.builtin "type.__getattribute__")))
    (hr : PySem.W.readsIn X.K C mc = true) (vV : PySem.W.findCls X.K (.ref C) mc "__init__" = some (.val (.builtin "ValueError.__init__"))) (ha : PA X (e :: es) ta)
    (hdb : (x == ("__debug__" : Str)) = false := by decide)
    (hc : eval (.Call (.Attribute (.Name x p1) "__init__" p2) (e :: es) [] pos) X.env = (do
      let ov ← eval (.Name x p1) X.env
      standAt p2.atName
      let (f, first) ← holding [ov] (getMethod ov "__init__" pl)
      callWith pos f first (backTo pos (starEach (e :: es) X.env)) (backToKw pos (keywordEach [] X.env))) := by rfl)
    (he : starEach (e :: es) X.env = (false, eval e X.env) :: starEach es X.env := by rfl) (hpl : (backTo pos (starEach es X.env)).any (·.1) = false := by rfl) :
    PE X (.Call (.Attribute (.Name x p1) "__init__" p2) (e :: es) [] pos) (tVeI X.K ta) := by
  constructor
  intro pins s σ H Q I h
  refine PySem.W.methodCall_KW (ld_glob I hg hm ?_ hdb) hc
  refine PySem.W.method_cls I.kIn sg (PySem.W.cls_value I.kIn hr vV (by decide +kernel) ?_)
  refine PyProof.Rows.callWith_method1 (thn (ha.run pos pins _ σ H _ (I.tok _) h) ?_) he hpl
  rintro us s1 ⟨vs, H1, I1, r1, a, C', ws, ev, hl, T, ea, z⟩
  subst ev
  cases r1 with
  | @cons _ u0 _ ur ra rw' =>
    obtain rfl : u0 = Value.ref a := ra
    have hlen : ur.length ≤ sizeLine := by
      rw [← Paired.length rw', sizeLine_eq]
      omega
    exact oinit_ok T I1 ea hlen fun s' J => ⟨.non, H1, J, rfl, z⟩
end

/-- an own exception class whose __init__ is ValueError's -/
structure GBase (K : PySem.W.Frag) (mg : Str → Option Value) (x : Str) (C : Addr) : Prop where
  mgx : mg x = some (.ref C)
  sg : PySem.W.specialIn K (.ref C) "__getattribute__" = some (some (.builtin "type.__getattribute__"))
  rd : PySem.W.readsIn K C (.type "type") = true
  vV : PySem.W.findCls K (.ref C) (.type "type") "__init__" = some (.val (.builtin "ValueError.__init__"))
/-! ### defs with defaults, by their bodies -/
section
variable {P : Program} {w : World} {K : PySem.W.Frag} {mg : Str → Option Value} {base : Heap} {k : Nat} {f : Addr} {fd : FuncData} {ps : List Str} {sp : Sp}
theorem gbodyD {CX : CXT} {x qual : Str} {params : Arguments} {body : List Stmt} {scope : Scope} {dvs : List V} {kws : List (Str × V)} {N : List Str}
    (F : FunD K x qual params body scope dvs kws f fd) (S : FnScope N ps scope) (ln : ∀ vs H Q E, sp vs H Q E → vs.length = ps.length)
    (hb : ∀ (cdv : Value) (A : Around) (outer : List Env) (s : Shared) (H : Hp) (vs : List V) (Q : VK) (E : XK),
      Room k (A.deeper (envOfC qual scope s.heap.objs.size f cdv)) → (A.deeper (envOfC qual scope s.heap.objs.size f cdv)).guards = some [] → sp vs H Q E →
      ∃ t, PSs (cxOf CX P w K mg base N qual scope f cdv A outer s H E) body t ∧ t { nx := fun _ H' => Q .non H', rt := Q } (start N vs) H) :
    FnG P w K mg base CX (k + 1) f fd ps sp := by
  obtain ⟨oc, od, dV, kV, doc, pm, an, cdv, ct, osl, rfl, lk, hcd, _, _⟩ := F.ex
  exact fg_of lk hcd S ln fun A outer s H vs Q E hr hg hsp => hb cdv A outer s H vs Q E hr hg hsp
end

/-! ### what was just laid, told without its heap's form -/
section
variable {X : Cx} {e : Expr} {es : List Expr} {t : TA} {te : TE} {pos : Pos}
abbrev Newly (H : Hp) (o : HO) (Q : VK) : Prop := ∀ (p : Addr) (H' : Hp), H p = none → Same H H' → H' p = some o → Q (.ref p) H'
theorem Newly.out {H : Hp} {o : HO} {Q : VK} (h : Newly H o Q) : ∀ p, H p = none → Q (.ref p) (upd H p o) := fun p hp => h p _ hp (same_new hp) upd_same
def tTupN (t : TA) : TE := fun σ H Q => t σ H fun xs H1 => xs.length ≤ sizeLine ∧ Newly H1 (.tup xs) Q
def tLstN (t : TA) : TE := fun σ H Q => t σ H fun xs H1 => xs.length ≤ sizeLine ∧ Newly H1 (.lst xs) Q
theorem pa_cut0 {t : TA} (h : PA X es t) : PA X es (fun σ H Q => ∃ R : List V → Hp → Prop, t σ H R ∧ ∀ vs H', R vs H' → Q vs H') := ⟨fun pos pins s σ H Q I ⟨R, h1, h2⟩ =>
  thn (h.run pos pins s σ H R I h1) fun _ _ ⟨vs, H', I', r, q⟩ => ⟨vs, H', I', r, h2 vs H' q⟩⟩
theorem pe_tupN {x1} (h : PA X es t) : PE X (.Tuple es x1 pos) (tTupN t) :=
  ⟨fun pins s σ H Q I q => (pe_tup (pa_cut0 h)).run pins s σ H Q I ⟨_, q, fun _ _ ⟨l, z⟩ => ⟨l, Newly.out z⟩⟩⟩
theorem pe_lstN (h : PA X es t) : PE X (.List es pos) (tLstN t) :=
  ⟨fun pins s σ H Q I q => (pe_lst (pa_cut0 h)).run pins s σ H Q I ⟨_, q, fun _ _ ⟨l, z⟩ => ⟨l, Newly.out z⟩⟩⟩
def rCatN : R2 := fun x y H Q => ∃ l b xs zs, x = .ref l ∧ y = .ref b ∧ H l = some (.lst xs) ∧ H b = some (.lst zs) ∧ xs.length + zs.length ≤ sizeLine ∧ Newly H (.lst (xs ++ zs)) Q
theorem op_catN : OpR X (binaryOp .Add) rCatN := fun pins s σ H x y v u Q I rx ry ⟨l, b, xs, zs, h1, h2, h3, h4, h5, h6⟩ =>
  op_cat pins s σ H x y v u Q I rx ry ⟨l, b, xs, zs, h1, h2, h3, h4, h5, Newly.out h6⟩
def rRepN : R2 := fun x y H Q => ∃ l k xs, x = .ref l ∧ y = .int k ∧ H l = some (.lst xs) ∧ -(2 ^ 63) ≤ k ∧ k < 2 ^ 63 ∧ xs.length * k.toNat ≤ sizeLine ∧ Newly H (.lst (List.replicate k.toNat xs).flatten) Q
theorem op_repN : OpR X (binaryOp .Mult) rRepN := fun pins s σ H x y v u Q I rx ry ⟨l, k, xs, h1, h2, h3, h4, h5, h6, h7⟩ =>
  op_rep pins s σ H x y v u Q I rx ry ⟨l, k, xs, h1, h2, h3, h4, h5, h6, Newly.out h7⟩
def rSlLN (K : PySem.W.Frag) : V → Option Int → Option Int → Hp → VK → Prop := fun x lo hi H Q => ∃ a xs, x = .ref a ∧ SqL K H a xs ∧ Newly H (.lst (cutV xs lo hi)) Q
theorem sl_listN : L2.SlR X (rSlLN X.K) := fun pins s σ H x v vl vu lo hi sl Q I rx hs pl pu ⟨a, xs, h1, h2, h3⟩ =>
  sl_list pins s σ H x v vl vu lo hi sl Q I rx hs pl pu ⟨a, xs, h1, h2, Newly.out h3⟩
/-- a slice of a tuple that may be the whole: whatever tuple it is -/
def rSlTN (K : PySem.W.Frag) : V → Option Int → Option Int → Hp → VK → Prop := fun x lo hi H Q => ∃ a xs, x = .ref a ∧ SqT K H a xs ∧
  ∀ (p : Addr) (H' : Hp), Same H H' → SqT K H' p (cutV xs lo hi) → Q (.ref p) H'
theorem cut_all {xs : List V} {lo hi : Option Int} (h1 : HT.sIx xs.length 0 lo = 0) (h2 : HT.sIx xs.length xs.length hi = xs.length) : cutV xs lo hi = xs := by
  unfold cutV
  rw [h1, h2, List.drop_zero, Nat.sub_zero, List.take_of_length_le (Nat.le_refl _)]
theorem sl_tupN : L2.SlR X (rSlTN X.K) := fun pins s σ H x v vl vu lo hi sl Q I rx hs pl pu ⟨a, xs, h1, h2, h3⟩ =>
  sl_tupA pins s σ H x v vl vu lo hi sl Q I rx hs pl pu ⟨a, xs, h1, h2, fun ⟨z1, z2⟩ => h3 a H (fun _ _ z => z) (by rw [cut_all z1 z2]; exact h2), fun _ p hp => h3 p _ (same_new hp) (SqT.of upd_same)⟩
/-- t + u of tuples: whatever tuple it is -/
def rCatAN (K : PySem.W.Frag) : R2 := fun x y H Q => ∃ a b xs ys, x = .ref a ∧ y = .ref b ∧ SqT K H a xs ∧ SqT K H b ys ∧ xs.length + ys.length ≤ sizeLine ∧
  ∀ (p : Addr) (H' : Hp), Same H H' → SqT K H' p (xs ++ ys) → Q (.ref p) H'
theorem op_catAN : OpR X (binaryOp .Add) (rCatAN X.K) := fun pins s σ H x y v u Q I rx ry ⟨a, b, xs, ys, h1, h2, h3, h4, h5, h6⟩ =>
  op_catA pins s σ H x y v u Q I rx ry ⟨a, b, xs, ys, h1, h2, h3, h4, h5, fun z => h6 b H (fun _ _ e => e) (by rw [z]; exact h4), fun _ z => h6 a H (fun _ _ e => e) (by rw [z, List.append_nil]; exact h3),
    fun _ _ p hp => h6 p _ (same_new hp) (SqT.of upd_same)⟩
end

/-! ### further rules -/
section
variable {X : Cx}
theorem op_eqI : OpR X (compareOp .Eq) (rI0 fun i j => .bl (decide (i = j))) := by
  rintro pins s σ H x y v u Q I rx ry ⟨i, j, rfl, rfl, q⟩
  refine op_eq pins s σ H _ _ v u Q I rx ry ⟨rfl, ?_⟩
  have e : decide (V.int i = V.int j) = decide (i = j) := by
    by_cases h : i = j
    · rw [decide_eq_true h, decide_eq_true (by rw [h])]
    · rw [decide_eq_false h, decide_eq_false (fun z => h (V.int.inj z))]
  rw [e]; exact q
theorem op_neI : OpR X (compareOp .NotEq) (rI0 fun i j => .bl (!decide (i = j))) := by
  rintro pins s σ H x y v u Q I rx ry ⟨i, j, rfl, rfl, q⟩
  refine op_ne pins s σ H _ _ v u Q I rx ry ⟨rfl, ?_⟩
  have e : decide (V.int i = V.int j) = decide (i = j) := by
    by_cases h : i = j
    · rw [decide_eq_true h, decide_eq_true (by rw [h])]
    · rw [decide_eq_false h, decide_eq_false (fun z => h (V.int.inj z))]
  rw [e]; exact q
theorem pe_globR {x : Str} {a : Addr} {p : Pos} (hg : Gl X x) (hm : X.mg x = some (.ref a)) (hdb : (x == ("__debug__" : Str)) = false := by decide) : PE X (.Name x p) (tC (.ref a)) := pe_glob hg hm rfl hdb
/-- // by a divisor of either sign -/
def CDivA (_ j : Int) : Prop := j ≠ 0 ∧ j.natAbs.log2 < 9000
theorem op_fdivA : OpR X (binaryOp .FloorDiv) (rI CDivA fun i j => .int (i.fdiv j)) := opI fun _ _ _ _ _ _ _ hc q => floordiv_int hc.1 q (.inl (PyProof.noPylong_of_log2 hc.2))
/-- x * n of a text -/
theorem op_rep_str : OpR X (binaryOp .Mult) (fun x y H Q => ∃ z n, x = .str z ∧ y = .int n ∧ MulOk z n ∧ Q (.str (Txt.mul z n)) H) := by
  rintro pins s σ H x y v u Q I rx ry ⟨z, n, rfl, rfl, hok, q⟩
  obtain ⟨t, rfl⟩ := rx
  obtain ⟨t', rfl⟩ := ry
  exact SB.mul hok fun t2 k => ⟨.str _, H, I.tok _, ⟨_, rfl⟩, q⟩
/-- repr of any data -/
theorem call_repr_any (hg : X.A.guards = some []) (hu : X.A.units + 150 < cLine) : CallR X (.builtin "repr") (fun xs H Q =>
    ∃ x d, xs = [x] ∧ Dp X.K H x d ∧ d.showable = true ∧ SeqAt.shaped d = true ∧ d.shown.length ≤ sizeLine ∧ Q (.str d.shown) H) := by
  intro pins s σ H xs us Q I r h
  obtain ⟨x, d, rfl, hd, hs, hsh, hz, q⟩ := h
  obtain ⟨u, rfl, ru⟩ := vals1 r
  cases x with
  | ref a => exact call_repr_data hg hu pins s σ H [.ref a] [u] Q I (.cons ru .nil) ⟨a, d, rfl, hd, hs, hsh, hz, q⟩
  | non =>
    cases hd
    cases ru
    exact PySem.P.repr_of_none ⟨.str _, H, I.tok _, ⟨_, rfl⟩, q⟩
  | bl b =>
    cases hd
    cases ru
    exact PySem.P.repr_of_bool ⟨.str _, H, I.tok _, ⟨_, rfl⟩, q⟩
  | int i =>
    cases hd
    obtain ⟨t, rfl⟩ := ru
    exact PySem.P.repr_of_int (by simpa only [PyData.showable, decide_eq_true_eq] using hs) ⟨.str _, H, I.tok _, ⟨_, rfl⟩, q⟩
  | str z =>
    cases hd
    obtain ⟨t, rfl⟩ := ru
    exact PySem.P.repr_of_str ⟨.str _, H, I.tok _, ⟨_, rfl⟩, q⟩ hz
  | byt b => cases hd
  | flt b => cases hd
  | ty n => cases hd
end

/-- an own error is what its own class's clause takes -/
theorem exm_own {K : PySem.W.Frag} {C : Addr} (eB : PySem.W.subIn K (.ref C) (.type "BaseException") = some true) (hc : PySem.W.isClsIn K C = true) (ht : PySem.W.typeIn K (.ref C) = some (.type "type"))
    (hs : PySem.W.subIn K (.ref C) (.ref C) = some true) : PySem.W.exmOne K (.ref C) (.ref C) = some true := by
  have b1 : (PySem.W.subIn K (.ref C) (.type "BaseException") == some true) = true := by rw [eB]; rfl
  have b2 : ((PySem.W.clsIn K C).isSome && PySem.W.typeIn K (.ref C) == some (.type "type")) = true := by
    have q : (PySem.W.clsIn K C).isSome = true := hc
    rw [q, ht]; rfl
  unfold PySem.W.exmOne
  rw [if_pos b1]
  unfold PySem.W.kitCls
  show (if ((PySem.W.clsIn K C).isSome && PySem.W.typeIn K (.ref C) == some (.type "type")) = true then PySem.W.subIn K (.ref C) (.ref C) else none) = some true
  rw [if_pos b2]
  exact hs
abbrev dR (st : Stmt) (m : Str) (q : Str) (K : PySem.W.Frag) : Addr → FuncData → Prop := fun f fd => Fun K m q st f fd

/-! ### own exceptions whose __init__ stores its arguments -/
/-- the __init__ of such a class: self.f = .. for the names fn, in order -/
def spX (C : Addr) (fn : List Str) : Sp := fun vs H Q _ => ∃ (a : Addr) (ws : List V), vs = .ref a :: ws ∧ ws.length = fn.length ∧ H a = some (exo a C none) ∧
  ∀ d, H d = none → d ≠ a → Q .non (upd (upd H d (exd d (fn.zip ws).reverse)) a (exo a C (some d)))
structure ExcOk (P : Program) (w : World) (K : PySem.W.Frag) (mg : Str → Option Value) (base : Heap) (x : Str) (C : Addr) (fn ps : List Str) : Prop where
  T : OexC K C
  xf : XfC K C
  te : PySem.W.exmOne K (.ref C) (.ref C) = some true
  no : ∀ f ∈ fn, PySem.W.findIn K (.ref C) f = some none
  mgx : mg x = some (.ref C)
  ex : ∃ (fI : Addr) (fd : FuncData), PySem.W.findIn K (.ref C) "__init__" = some (some (.ref fI)) ∧ PySem.W.typeIn K (.ref fI) = some (.type "function") ∧
    Binds K fd ps [] ∧ FnOk P w K mg base CX0 1 fI fd ps (spX C fn)
/-- X(e, ..) of such a class, about to be raised -/
def tMkX (C : Addr) (fn : List Str) (ta : TA) : L2.St → Hp → XK → Prop := fun σ H Q => ta σ H fun vs H1 => vs.length = fn.length ∧ vs.length ≤ 1000 ∧
  ∀ d, H1 d = none → Q (.ref C) (some d) (upd H1 d (.xd (fn.zip vs).reverse))
theorem heap_back {H : Hp} {a d : Addr} {o1 o2 o3 o4 : HO} (ha : H a = none) (n : d ≠ a) : upd (del (upd (upd (upd H a o1) d o2) a o3) a) d o4 = upd H d o4 := by
  funext b
  by_cases hb : b = d
  · subst hb; rw [upd_same, upd_same]
  · rw [upd_ne hb, upd_ne hb]
    by_cases hba : b = a
    · subst hba; rw [del_same, ha]
    · rw [del_ne hba, upd_ne hba, upd_ne hb, upd_ne hba]
theorem tMkX_ok {C : Addr} {fn : List Str} {vs : List V} {H1 : Hp} {Q : XK} (l : vs.length = fn.length) (z : vs.length ≤ 1000)
    (h : ∀ d, H1 d = none → Q (.ref C) (some d) (upd H1 d (.xd (fn.zip vs).reverse))) :
    vs.length ≤ 1000 ∧ ∀ a, H1 a = none → spX C fn (.ref a :: (vs ++ [])) (upd H1 a (exo a C none))
      (fun v H2 => v = .non ∧ ∃ (d : Addr) (fs : List (Str × V)), H2 a = some (exo a C (some d)) ∧ H2 d = some (exd d fs) ∧ H1 d = none ∧ Q (.ref C) (some d) (upd (del H2 a) d (.xd fs))) (fun _ _ _ => False) := by
  refine ⟨z, fun a ha => ⟨a, vs, by rw [List.append_nil], l, upd_same, fun d hd n => ⟨rfl, d, (fn.zip vs).reverse, upd_same, ?_, ?_, ?_⟩⟩⟩
  · rw [upd_ne n, upd_same]
  · rw [upd_ne n] at hd; exact hd
  · rw [heap_back ha n]
    rw [upd_ne n] at hd
    exact h d hd
section
variable {X : Cx} {j : Nat} {C : Addr} {x : Str} {fn ps : List Str} {e : Expr} {es : List Expr} {ta : TA} {p pos pos2 : Pos} {W : WX}
theorem pmk_imp {t t' : L2.St → Hp → XK → Prop} (h : PMk X e t) (i : ∀ σ H Q, t' σ H Q → t σ H Q) : PMk X e t' := fun pins s σ H Q I z => h pins s σ H Q I (i σ H Q z)
theorem pa_mono {Q Q' : List V → Hp → Prop} {t : TA} (m : ∀ σ H (Q Q' : List V → Hp → Prop), (∀ vs H1, Q vs H1 → Q' vs H1) → t σ H Q → t σ H Q') {σ : L2.St} {H : Hp} (h : ∀ vs H1, Q vs H1 → Q' vs H1) (z : t σ H Q) : t σ H Q' := m σ H Q Q' h z
/-- an argument list's reading, weakened -/
def aCut (t : TA) : TA := fun σ H Q => ∃ R : List V → Hp → Prop, t σ H R ∧ ∀ vs H', R vs H' → Q vs H'
theorem pa_cut {es : List Expr} {t : TA} (h : PA X es t) : PA X es (aCut t) := ⟨fun pos pins s σ H Q I ⟨R, h1, h2⟩ =>
  thn (h.run pos pins s σ H R I h1) fun _ _ ⟨vs, H', I', r, q⟩ => ⟨vs, H', I', r, h2 vs H' q⟩⟩
theorem ExcOk.make (E : ExcOk X.prog X.w X.K X.mg X.base x C fn ps) (hG : Gl X x) (hr : Room j X.A) (ha : PA X (e :: es) ta) (hj : 2 ≤ j := by decide)
    (hdb : (x == ("__debug__" : Str)) = false := by decide) (he : starEach (e :: es) X.env = (false, eval e X.env) :: starEach es X.env := by rfl)
    (hpl : (backTo pos (starEach es X.env)).any (·.1) = false := by rfl) :
    PMk X (.Call (.Name x p) (e :: es) [] pos) (tMkX C fn ta) := by
  obtain ⟨fI, fd, iC, tI, b, G⟩ := E.ex
  refine pmk_imp (pmk_oex (CX := CX0) E.T iC tI G (hr.mono hj) b .nil pass0 hG E.mgx (pa_cut ha) hdb he hpl) ?_
  intro σ H Q h
  exact ⟨_, h, fun vs H1 ⟨l, z, q⟩ => tMkX_ok l z q⟩
theorem ExcOk.raise (E : ExcOk X.prog X.w X.K X.mg X.base x C fn ps) (hc : X.calm = true) (hG : Gl X x) (hr : Room j X.A) (tk : Takes X W) (ha : PA X (e :: es) ta) (hj : 2 ≤ j := by decide)
    (hdb : (x == ("__debug__" : Str)) = false := by decide) (he : starEach (e :: es) X.env = (false, eval e X.env) :: starEach es X.env := by rfl)
    (hpl : (backTo pos (starEach es X.env)).any (·.1) = false := by rfl) :
    PS X (.Raise (some (.Call (.Name x p) (e :: es) [] pos)) none pos2) (fun _ σ H => tMkX C fn ta σ H fun cls d H' => W cls d σ H') :=
  ps_raise hc tk (E.make hG hr ha hj hdb he hpl)
end
/-! ### within a comprehension's block -/
section
variable {X : Cx} {s : Shared} {H : Hp} {sc : Scope} {env : Env} {fp : List Addr}
theorem sl_listNB : L2.SlR (X.blk s H sc env fp) (rSlLN X.K) := sl_listN
theorem sl_tupNB : L2.SlR (X.blk s H sc env fp) (rSlTN X.K) := sl_tupN
theorem op_catANB : OpR (X.blk s H sc env fp) (binaryOp .Add) (rCatAN X.K) := op_catAN
end
theorem mulok_small {x : Str} {n : Int} (h0 : -1000 ≤ n) (h2 : n ≤ 1000) (hl : x.length ≤ 1000) : MulOk x n := by
  refine ⟨?_, fun h1 h3 z => ?_, fun h1 h3 => ?_⟩
  · rw [Bool.or_eq_false_iff]
    exact ⟨decide_eq_false (by omega), decide_eq_false (by omega)⟩
  · have q : (2 ^ 63 - 1) / n ≥ 1000 := by
      have : 1000 * n ≤ 2 ^ 63 - 1 := by omega
      exact (Int.le_ediv_iff_mul_le (by omega)).mpr this
    omega
  · have q : x.length * n.toNat ≤ 1000 * 1000 := Nat.mul_le_mul hl (by omega)
    have e : sizeLine ≥ 1000 * 1000 := by decide
    exact decide_eq_false (by omega)
end Lay

set_option Elab.async false
set_option linter.all false
set_option maxRecDepth 100000
set_option maxHeartbeats 2000000
namespace Lay
open PySem PySem.Spec PyProof.Rows L2
/-! ### own len, str, repr, == -/
section
variable {X : Cx} {j k : Nat} {C f : Addr} {fd : FuncData} {D : Addr → FuncData → Prop} {ps : List Str} {sp : Sp} {pins : List (Addr × Obj)} {σ : L2.St} {H : Hp} {s : Shared}
  {Q : VK} {E : XK} {us : List Value} {vs : List V}
theorem gcallA {A : Around} {E' : Value → Shared → Prop} (F : FnG X.prog X.w X.K X.mg X.base CX0 k f fd ps sp) (hr : Room k A) (hg : A.guards = some [])
    (e0 : Env0 X.prog X.w X.K X.mg X.base A X.stack s H) (hb : Binds X.K fd ps []) (I : Inv X pins σ H s) (r : Vals vs us) (h : sp vs H Q E) :
    wpAny (model X.prog X.w) A (call (.ref f) us) (EP X pins σ Q) E' s := by
  have hl : us.length = ps.length := by rw [← r.length]; exact F.ln _ _ _ _ h
  have bb := hb s us I.kIn (by rw [List.append_nil]; exact hl)
  rw [List.append_nil] at bb
  refine wpAny_call (codeAny_mono (F.go A X.stack s H ⟨us, []⟩ us vs Q E hr hg e0 bb r h) ?_)
  intro r s' hq
  cases r with
  | error e => exact hq.elim
  | ok fl =>
    cases fl with
    | ret u => exact I.after hq
    | next => exact hq.elim
    | brk => exact hq.elim
    | cont => exact hq.elim
def rLenO (C : Addr) (sp : Sp) : List V → Hp → VK → Prop := fun xs H Q => ∃ a dx fs, xs = [.ref a] ∧ H a = some (.ins C dx fs) ∧ sp [.ref a] H (fun v H' => ∃ n : Int, v = .int n ∧ 0 ≤ n ∧ n < 2 ^ 63 ∧ Q (.int n) H') E0
theorem Method.len (M : Method X.prog X.w X.K X.mg X.base CX0 k C "__len__" D ps sp) (hr : Room j X.A) (hg : X.A.guards = some []) (hj : k + 1 ≤ j := by decide) : CallR X (.builtin "len") (rLenO C sp) := by
  obtain ⟨f, fd, c, hm, F, b, G⟩ := M.ex
  intro pins s σ H xs us Q I r h
  obtain ⟨a, dx, fs, rfl, ea, z⟩ := h
  obtain ⟨u, rfl, ru⟩ := r.one
  obtain rfl : u = Value.ref a := ru
  obtain ⟨mA, O, _⟩ := ins_get I.hok ea
  obtain ⟨od, J, _⟩ := O.look
  obtain ⟨m, fr⟩ := I.fr
  have hr' : Room k X.A.in1 := (hr.mono hj).in1
  refine PySem.W.len_K fr I.ok.mod.kin J hm.at_ hm.fn ?_
  refine wpAny_mono (gcallA (vs := [V.ref a]) G hr' hg I.env0.in1 b I (.cons rfl .nil) z) ?_ (fun _ _ e => e)
  rintro w s' ⟨v, H', I', rv, n, rfl, h0, h1, q⟩
  obtain ⟨t, rfl⟩ := (show ∃ t, w = Value.int n t from rv)
  exact ⟨⟨h0, h1⟩, .int n, H', I'.tok _, ⟨_, rfl⟩, q⟩
def rStrO (C : Addr) (sp : Sp) : List V → Hp → VK → Prop := fun xs H Q => ∃ a dx fs, xs = [.ref a] ∧ H a = some (.ins C dx fs) ∧ sp [.ref a] H (fun v H' => ∃ z : Str, v = .str z ∧ Q (.str z) H') E0
theorem Method.str (M : Method X.prog X.w X.K X.mg X.base CX0 k C "__str__" D ps sp) (hr : Room j X.A) (hg : X.A.guards = some []) (hj : k + 2 ≤ j := by decide) : CallR X (.type "str") (rStrO C sp) := by
  obtain ⟨f, fd, c, hm, F, b, G⟩ := M.ex
  intro pins s σ H xs us Q I r h
  obtain ⟨a, dx, fs, rfl, ea, z⟩ := h
  obtain ⟨u, rfl, ru⟩ := r.one
  obtain rfl : u = Value.ref a := ru
  obtain ⟨mA, O, _⟩ := ins_get I.hok ea
  obtain ⟨od, J, _⟩ := O.look
  have hr' : Room k X.A.in1.in1 := (show Room (k + 1) X.A.in1 from (hr.mono hj).in1).in1
  refine PySem.W.kso_call hr'.units0 I.kIn J hm.at_ hm.fn ?_
  refine wpAny_mono (gcallA (vs := [V.ref a]) G hr' hg I.env0.in1.in1 b I (.cons rfl .nil) z) ?_ (fun _ _ e => e)
  rintro w s' ⟨v, H', I', rv, n, rfl, q⟩
  obtain ⟨t, rfl⟩ := (show ∃ t, w = Value.str n t from rv)
  exact ⟨.str n, H', I', ⟨_, rfl⟩, q⟩
theorem Method.repr (M : Method X.prog X.w X.K X.mg X.base CX0 k C "__repr__" D ps sp) (hr : Room j X.A) (hg : X.A.guards = some []) (hj : k + 1 ≤ j := by decide) : CallR X (.builtin "repr") (rStrO C sp) := by
  obtain ⟨f, fd, c, hm, F, b, G⟩ := M.ex
  intro pins s σ H xs us Q I r h
  obtain ⟨a, dx, fs, rfl, ea, z⟩ := h
  obtain ⟨u, rfl, ru⟩ := r.one
  obtain rfl : u = Value.ref a := ru
  obtain ⟨mA, O, _⟩ := ins_get I.hok ea
  obtain ⟨od, J, _⟩ := O.look
  obtain ⟨m, fr⟩ := I.fr
  have hr' : Room k X.A.in1 := (hr.mono hj).in1
  refine PySem.W.repr_K hr'.units0 fr I.ok.mod.kin J hm.at_ hm.fn ?_
  refine wpAny_mono (gcallA (vs := [V.ref a]) G hr' hg I.env0.in1 b I (.cons rfl .nil) z) ?_ (fun _ _ e => e)
  rintro w s' ⟨v, H', I', rv, n, rfl, q⟩
  obtain ⟨t, rfl⟩ := (show ∃ t, w = Value.str n t from rv)
  exact ⟨.str n, H', I', ⟨_, rfl⟩, q⟩
/-- o == x -/
def rEqO (K : PySem.W.Frag) (C : Addr) (sp : Sp) : R2 := fun x y H Q => ∃ a dx fs t, x = .ref a ∧ H a = some (.ins C dx fs) ∧ TyX K H y t ∧ PySem.W.notFirst K C t = true ∧ sp [x, y] H (fun v H' => ∃ b : Bool, v = .bl b ∧ Q (.bl b) H') E0
theorem notFirst_self {K : PySem.W.Frag} {C : Addr} : PySem.W.notFirst K C (.ref C) = true := by
  unfold PySem.W.notFirst
  simp
theorem Method.eq {o : CmpOp} (M : Method X.prog X.w X.K X.mg X.base CX0 k C (cmpInfo o).2.1 D ps sp) (hop : ∀ a b, compareOp o a b = richCompare o a b) (hr : Room j X.A) (hg : X.A.guards = some []) (hj : k ≤ j := by decide) : OpR X (compareOp o) (rEqO X.K C sp) := by
  obtain ⟨f, fd, c, hm, F, b, G⟩ := M.ex
  intro pins s σ H x y v u Q I rx ry h
  obtain ⟨a, dx, fs, t, rfl, ea, ty, hn, z⟩ := h
  obtain rfl : v = Value.ref a := rx
  obtain ⟨mA, O, _⟩ := ins_get I.hok ea
  obtain ⟨od, J, _⟩ := O.look
  obtain ⟨m, fr⟩ := I.fr
  obtain ⟨P, Z, p, hx⟩ := kit_of I ry ty
  rw [hop]
  refine PySem.W.cmp_K (op := o) (tb := t) hr.units0 fr I.ok.mod.kin J (Z.ty _ _ I.kIn p) hn hm.at_ hm.fn ?_
  refine wpAny_mono (gcallA (vs := [V.ref a, y]) G (hr.mono hj) hg I.env0 b I (.cons rfl (.cons ry .nil)) z) ?_ (fun _ _ e => e)
  rintro w s' ⟨v, H', I', rv, n, rfl, q⟩
  obtain rfl : w = Value.bool n := rv
  exact ⟨.bl n, H', I', rfl, q⟩
theorem ifBound_B {M : Model} {A : Around} {E : Value → Shared → Prop} {s : Shared} {K : PySem.W.Frag} {x C : Addr} {ox : Obj} {od : Option Obj} {name : Str} {id : String} {args : List Value} {Q : Option Value → Shared → Prop}
    (X : K.In s.heap) (I : PySem.W.InstAt s.heap x ox C od) (hs : PySem.W.findIn K (.ref C) name = some (some (.builtin id))) (hb : ∀ self, bindSpecial (.builtin id) self = pure (.builtin id, [self]))
    (h : wpAny M A (call (.builtin id) (.ref x :: args)) (fun v => Q (some v)) E s) : wpAny M A (callSpecialIfBound? (.ref x) name args) Q E s := by
  simp only [callSpecialIfBound?, bindSpecialIfBound?]
  refine wpAny_holding (wpAny_bind (wpAny_bind (wpAny_bind (I.type.here ((PySem.W.looks_findIn X hs).here ?_)))))
  refine wpAny_bind (wpAny_askSetting (wpAny_ite ?_))
  have fin : wpAny M A (call (.builtin id) ([.ref x] ++ args) >>= fun v => pure (some v)) Q E s := wpAny_bind (wpAny_mono h (fun v s' h' => wpAny_pure h') fun _ _ h' => h')
  split
  · exact wpAny_bind ((PySem.W.Looks.of_pure (hb _)).here (wpAny_pure (by exact fin)))
  · exact wpAny_tryCatch (wpAny_bind ((PySem.W.Looks.of_pure (hb _)).here (wpAny_pure (by exact fin))))
theorem ne_own {prog : Program} {w : World} {A : Around} {E : Value → Shared → Prop} {s : Shared} {K : PySem.W.Frag} {x C f : Addr} {ox : Obj} {od : Option Obj} {b tb : Value} {Q : Value → Shared → Prop}
    (hu : A.in1.units < cLine) (X : K.In s.heap) (I : PySem.W.InstAt s.heap x ox C od) (hb : PySem.W.Looks (model prog w) s.heap (typeOf b) tb) (hn : PySem.W.notFirst K C tb = true)
    (hne : PySem.W.findIn K (.ref C) "__ne__" = some (some (.builtin "object.__ne__"))) (hm : PySem.W.mroIn K C (.type "object") = some true)
    (he : PySem.W.findIn K (.ref C) "__eq__" = some (some (.ref f))) (hf : PySem.W.isFn K (.ref f) = true)
    (h : wpAny (model prog w) A.in1 (call (.ref f) [.ref x, b]) (fun v s' => ∃ c, v = .bool c ∧ Q (.bool (!c)) s') E s) : wpAny (model prog w) A (richCompare .NotEq (.ref x) b) Q E s := by
  have hu0 : A.units < cLine := Nat.lt_of_succ_lt (show A.units + 1 < cLine from hu)
  have one : wpAny (model prog w) A (tryCompare (.ref x) (cmpInfo .NotEq).2.1 b) (fun r s' => ∃ v, r = some v ∧ Q v s') E s := by
    unfold tryCompare
    refine wpAny_bind (ifBound_B X I hne PySem.F.slot_object_ne.bind ?_)
    refine wpAny_call (codeAny_call_builtin PySem.F.slot_object_ne.plain PySem.F.cmpEntry_ne (PySem.W.check_slot (i := "object.__ne__") (owner := "object") (n := "__ne__") (by decide +kernel) (by decide +kernel) (I.type.andThen (PySem.W.looks_mroIn X hm)) (PySem.F.cmpArgs_ne _ _) ?_))
    unfold Builtin.«object.__ne__»
    refine wpAny_bind (wpAny_pure ?_)
    refine wpAny_bind (m := cRoomFor _ _) (wpAny_cRoomFor hu ?_)
    refine wpAny_bind (m := callSpecialIfBound? (.ref x) (Str.ofString "__eq__") _) (PySem.W.ifBound_K X I he hf (wpAny_mono h (fun r s' hq => ?_) fun _ _ y => y))
    obtain ⟨c, rfl, hq⟩ := hq
    refine wpAny_bind (m := truthy (.bool _)) (wpAny_truthy_bool ?_)
    exact wpAny_pure (wpAny_pure ⟨_, rfl, hq⟩)
  unfold richCompare
  simp only [oneThing_ref]
  refine wpAny_holding (wpAny_bind (wpAny_cRoomFor hu0 ?_))
  refine wpAny_bind (I.type.here (wpAny_bind (hb.here ?_)))
  split
  · rename_i q
    have e : PySem.W.subIn K tb (.ref C) = some false := by
      rcases Bool.or_eq_true_iff.mp hn with e | e
      · rw [beq_iff_eq.mp e] at q; simp at q
      · exact beq_iff_eq.mp e
    refine wpAny_bind ((PySem.W.looks_subIn X e).here ?_)
    simp only [Bool.false_eq_true, if_false]
    refine wpAny_bind (wpAny_mono one (fun r s' z => ?_) fun _ _ e => e)
    obtain ⟨v, rfl, hq⟩ := z
    exact wpAny_pure hq
  · refine wpAny_bind (wpAny_pure ?_)
    simp only [Bool.false_eq_true, if_false]
    refine wpAny_bind (wpAny_mono one (fun r s' z => ?_) fun _ _ e => e)
    obtain ⟨v, rfl, hq⟩ := z
    exact wpAny_pure hq
/-- o != x by the class's own ==, where it has no != of its own -/
structure NoNe (K : PySem.W.Frag) (C : Addr) : Prop where
  ne : PySem.W.findIn K (.ref C) "__ne__" = some (some (.builtin "object.__ne__"))
  hm : PySem.W.mroIn K C (.type "object") = some true
def rNeO (K : PySem.W.Frag) (C : Addr) (sp : Sp) : R2 := fun x y H Q => ∃ a dx fs t, x = .ref a ∧ H a = some (.ins C dx fs) ∧ TyX K H y t ∧ PySem.W.notFirst K C t = true ∧ sp [x, y] H (fun v H' => ∃ b : Bool, v = .bl b ∧ Q (.bl (!b)) H') E0
theorem Method.ne (M : Method X.prog X.w X.K X.mg X.base CX0 k C "__eq__" D ps sp) (N : NoNe X.K C) (hr : Room j X.A) (hg : X.A.guards = some []) (hj : k + 1 ≤ j := by decide) : OpR X (compareOp .NotEq) (rNeO X.K C sp) := by
  obtain ⟨f, fd, c, hm, F, b, G⟩ := M.ex
  intro pins s σ H x y v u Q I rx ry h
  obtain ⟨a, dx, fs, t, rfl, ea, ty, hn, z⟩ := h
  obtain rfl : v = Value.ref a := rx
  obtain ⟨mA, O, _⟩ := ins_get I.hok ea
  obtain ⟨od, J, _⟩ := O.look
  obtain ⟨P, Z, p, hx⟩ := kit_of I ry ty
  have hr' : Room k X.A.in1 := (hr.mono hj).in1
  show wpAny (model X.prog X.w) X.A (richCompare .NotEq (.ref a) u) (EP X pins σ Q) X.xe s
  refine ne_own hr'.units0 I.kIn J (Z.ty _ _ I.kIn p) hn N.ne N.hm hm.at_ hm.fn ?_
  refine wpAny_mono (gcallA (vs := [V.ref a, y]) G hr' hg I.env0.in1 b I (.cons rfl (.cons ry .nil)) z) ?_ (fun _ _ e => e)
  rintro w s' ⟨v, H', I', rv, n, rfl, q⟩
  obtain rfl : w = Value.bool n := rv
  exact ⟨n, rfl, .bl (!n), H', I', rfl, q⟩
/-- f'{o}' -/
def tFmtO (C : Addr) (sp : Sp) (te : TE) : TE := fun σ H Q => te σ H fun x H1 => ∃ a dx fs, x = .ref a ∧ H1 a = some (.ins C dx fs) ∧ sp [x] H1 (fun v H' => ∃ z : Str, v = .str z ∧ Q (.str z) H') E0
theorem Method.fmt (M : Method X.prog X.w X.K X.mg X.base CX0 k C "__str__" D ps sp) (hf : PySem.W.findIn X.K (.ref C) "__format__" = some (some (.builtin "object.__format__"))) (ho : PySem.W.mroIn X.K C (.type "object") = some true)
    {e : Expr} {te : TE} {pos : Pos} (he : PE X e te) (hr : Room j X.A) (hg : X.A.guards = some []) (hj : k + 1 ≤ j := by decide) : PE X (.FormattedValue e (-1) none pos) (tFmtO C sp te) := by
  obtain ⟨f, fd, c, hm, F, b, G⟩ := M.ex
  constructor
  intro pins s σ H Q I h
  refine wpAny_FormattedValue_plain (thn (he.run pins s σ H _ I h) ?_)
  rintro v s1 ⟨x, H1, I1, r1, a, dx, fs, rfl, ea, z⟩
  obtain rfl : v = Value.ref a := r1
  obtain ⟨mA, O, _⟩ := ins_get I1.hok ea
  obtain ⟨od, J, _⟩ := O.look
  have hr' : Room k X.A.in1 := (hr.mono hj).in1
  refine PySem.W.kfo_fieldS hr'.units0 I1.kIn J hf ho hm.at_ hm.fn ?_
  have I2 := I1.tok (s1.toks + 1)
  refine wpAny_mono (gcallA (vs := [V.ref a]) G hr' hg I2.env0.in1 b I2 (.cons rfl .nil) z) ?_ (fun _ _ e => e)
  rintro w s' ⟨v, H', I', rv, n, rfl, q⟩
  obtain ⟨t, rfl⟩ := (show ∃ t, w = Value.str n t from rv)
  exact ⟨.str n, H', I', ⟨_, rfl⟩, q⟩
end

/-! ### x == o with x of a built-in kind: the class's own == is asked behind -/
theorem str_eq_no (b : Str) (u : Tok) (l : Addr) (o : Obj) (c : Value) (hd : o.data = .plain) (hc : o.cls = c) :
    Meets (Builtin.«str.__eq__» ⟨[.str b u, .ref l], []⟩) (fun _ R s => s.heap.get? l = some o ∧ R (.ok (.ret .notImplemented)) s) :=
  .of_wp fun prog w A R s h => by obtain ⟨hp, g, d, tk, os⟩ := s; obtain ⟨oc, od, dt, sl⟩ := o; cases hd; obtain ⟨hl, h⟩ := h; wp_walk using wpAny_loadPart' hl, wpAny_load hl; exact ⟨_, rfl, h⟩
theorem int_eq_no (b : Int) (u : Tok) (l : Addr) (o : Obj) (c : Value) (hd : o.data = .plain) (hc : o.cls = c) :
    Meets (Builtin.«int.__eq__» ⟨[.int b u, .ref l], []⟩) (fun _ R s => s.heap.get? l = some o ∧ R (.ok (.ret .notImplemented)) s) :=
  .of_wp fun prog w A R s h => by obtain ⟨hp, g, d, tk, os⟩ := s; obtain ⟨oc, od, dt, sl⟩ := o; cases hd; obtain ⟨hl, h⟩ := h; wp_walk using wpAny_loadPart' hl, wpAny_load hl; exact ⟨_, rfl, h⟩
theorem bool_eq_no (b : Bool) (l : Addr) (o : Obj) (c : Value) (hd : o.data = .plain) (hc : o.cls = c) :
    Meets (Builtin.«int.__eq__» ⟨[.bool b, .ref l], []⟩) (fun _ R s => s.heap.get? l = some o ∧ R (.ok (.ret .notImplemented)) s) :=
  .of_wp fun prog w A R s h => by obtain ⟨hp, g, d, tk, os⟩ := s; obtain ⟨oc, od, dt, sl⟩ := o; cases hd; obtain ⟨hl, h⟩ := h; wp_walk using wpAny_loadPart' hl, wpAny_load hl; exact ⟨_, rfl, h⟩
section
variable {prog : Program} {w : World} {A : Around} {E : Value → Shared → Prop} {s : Shared} {K : PySem.W.Frag} {x C f : Addr} {ox : Obj} {od : Option Obj}
/-- a: of a built-in kind whose == declines -/
theorem refl_own {a : Value} {Ta ida : String} {Q : Value → Shared → Prop} (ha : s.TypeIs a Ta) (hu : A.units < cLine) (X : K.In s.heap) (I : PySem.W.InstAt s.heap x ox C od) (hsub : PySem.W.subIn K (.ref C) (.type Ta) = some false)
    (h1 : Slot Ta (cmpInfo .Eq).2.1 ida) (hc1 : ∀ Q' : Value → Shared → Prop, Q' .notImplemented s → wpAny (model prog w) A (call (.builtin ida) [a, .ref x]) Q' E s)
    (he : PySem.W.findIn K (.ref C) "__eq__" = some (some (.ref f))) (hf : PySem.W.isFn K (.ref f) = true)
    (h : wpAny (model prog w) A (call (.ref f) [.ref x, a]) (PySem.W.CmpBack Q) E s) : wpAny (model prog w) A (richCompare .Eq a (.ref x)) Q E s := by
  have two : wpAny (model prog w) A (tryCompare (.ref x) (cmpInfo .Eq).2.2 a) (fun r s' => ∃ v, r = some v ∧ Q v s') E s := by
    unfold tryCompare
    refine wpAny_bind (PySem.W.ifBound_K X I he hf (wpAny_mono h (fun v s' hv => ?_) fun _ _ e => e))
    cases v <;> first | exact hv.elim | exact wpAny_pure ⟨_, rfl, hv⟩
  unfold richCompare
  simp only [ha.oneThing_none]
  refine wpAny_holding (wpAny_bind (wpAny_cRoomFor hu ?_))
  refine wpAny_bind (wpAny_typeOf ha (wpAny_bind (I.type.here ?_)))
  rw [show (Value.type Ta != Value.ref C) = true from by simp]
  simp only [if_true]
  refine wpAny_bind ((PySem.W.looks_subIn X hsub).here ?_)
  simp only [Bool.false_eq_true, if_false, Bool.not_false, if_true]
  refine wpAny_bind (m := tryCompare a _ (.ref x)) (wpAny_tryCompare_declines ha h1 (hc1 _ ⟨rfl, ?_⟩))
  refine wpAny_bind (wpAny_mono two (fun r s' z => ?_) fun _ _ e => e)
  obtain ⟨v, rfl, hq⟩ := z
  exact wpAny_pure hq
end
theorem tup_eq_no (t x : Addr) :
    Meets (Builtin.«tuple.__eq__» ⟨[.ref t, .ref x], []⟩) (fun _ R s => (∃ (K : PySem.W.Frag) (C : Addr) (ox : Obj) (od : Option Obj), K.In s.heap ∧ PySem.W.InstAt s.heap x ox C od ∧ PySem.W.subIn K (.ref C) (.type "tuple") = some false) ∧ R (.ok (.ret .notImplemented)) s) :=
  .of_wp fun prog w A R s h => by
    obtain ⟨⟨K, C, ox, od, X, I, hs⟩, h⟩ := h
    unfold Builtin.«tuple.__eq__»
    refine wpAny_bind (wpAny_pure ?_)
    refine wpAny_bind (m := isInstance (.ref x) (.type "tuple")) (wpAny_bind (I.type.here ((PySem.W.looks_subIn X hs).here ?_)))
    first
      | exact wpAny_pure ⟨_, rfl, h⟩
      | (rw [if_pos rfl]; exact wpAny_pure ⟨_, rfl, h⟩)
      | (simp only [Bool.not_false, if_true]; exact wpAny_pure ⟨_, rfl, h⟩)
      | (refine wpAny_bind ?_; rw [if_pos rfl]; exact wpAny_pure (wpAny_pure ⟨_, rfl, h⟩))
theorem lst_eq_no (t x : Addr) :
    Meets (Builtin.«list.__eq__» ⟨[.ref t, .ref x], []⟩) (fun _ R s => (∃ (K : PySem.W.Frag) (C : Addr) (ox : Obj) (od : Option Obj), K.In s.heap ∧ PySem.W.InstAt s.heap x ox C od ∧ PySem.W.subIn K (.ref C) (.type "list") = some false) ∧ R (.ok (.ret .notImplemented)) s) :=
  .of_wp fun prog w A R s h => by
    obtain ⟨⟨K, C, ox, od, X, I, hs⟩, h⟩ := h
    unfold Builtin.«list.__eq__»
    refine wpAny_bind (wpAny_pure ?_)
    refine wpAny_bind (m := isInstance (.ref x) (.type "list")) (wpAny_bind (I.type.here ((PySem.W.looks_subIn X hs).here ?_)))
    first
      | exact wpAny_pure ⟨_, rfl, h⟩
      | (rw [if_pos rfl]; exact wpAny_pure ⟨_, rfl, h⟩)
      | (simp only [Bool.not_false, if_true]; exact wpAny_pure ⟨_, rfl, h⟩)
      | (refine wpAny_bind ?_; rw [if_pos rfl]; exact wpAny_pure (wpAny_pure ⟨_, rfl, h⟩))
/-- what the written part says: the class is below no built-in kind but object -/
structure Refl (K : PySem.W.Frag) (C : Addr) : Prop where
  str : PySem.W.subIn K (.ref C) (.type "str") = some false
  int : PySem.W.subIn K (.ref C) (.type "int") = some false
  bool : PySem.W.subIn K (.ref C) (.type "bool") = some false
  none : PySem.W.subIn K (.ref C) (.type "NoneType") = some false
  tup : PySem.W.subIn K (.ref C) (.type "tuple") = some false
  lst : PySem.W.subIn K (.ref C) (.type "list") = some false
def plainV : V → Prop
  | .str _ | .int _ | .bl _ | .non => True
  | _ => False
def rReqO (K : PySem.W.Frag) (C : Addr) (sp : Sp) : R2 := fun x y H Q => ∃ a dx fs, y = .ref a ∧ (plainV x ∨ (∃ t xs, x = .ref t ∧ SqT K H t xs) ∨ ∃ t xs, x = .ref t ∧ SqL K H t xs) ∧ H a = some (.ins C dx fs) ∧ sp [y, x] H (fun v H' => ∃ b : Bool, v = .bl b ∧ Q (.bl b) H') E0
section
variable {X : Cx} {j k : Nat} {C : Addr} {D : Addr → FuncData → Prop} {ps : List Str} {sp : Sp}
theorem Method.req (M : Method X.prog X.w X.K X.mg X.base CX0 k C "__eq__" D ps sp) (R : Refl X.K C) (hr : Room j X.A) (hg : X.A.guards = some []) (hj : k ≤ j := by decide) : OpR X (compareOp .Eq) (rReqO X.K C sp) := by
  obtain ⟨f, fd, c, hm, F, b, G⟩ := M.ex
  intro pins s σ H x y v u Q I rx ry h
  obtain ⟨a, dx, fs, rfl, hp, ea, z⟩ := h
  obtain rfl : u = Value.ref a := ry
  obtain ⟨mA, O, _⟩ := ins_get I.hok ea
  obtain ⟨od, J, _⟩ := O.look
  have hc : wpAny (model X.prog X.w) X.A (call (.ref f) [.ref a, v]) (PySem.W.CmpBack (EP X pins σ Q)) X.xe s := by
    refine wpAny_mono (gcallA (vs := [V.ref a, x]) G (hr.mono hj) hg I.env0 b I (.cons rfl (.cons rx .nil)) z) ?_ (fun _ _ e => e)
    rintro w s' ⟨v, H', I', rv, n, rfl, q⟩
    obtain rfl : w = Value.bool n := rv
    exact ⟨.bl n, H', I', rfl, q⟩
  show wpAny (model X.prog X.w) X.A (richCompare .Eq v (.ref a)) (EP X pins σ Q) X.xe s
  rcases hp with hp | ⟨t, xs, rfl, ht⟩ | ⟨t, xs, rfl, ht⟩
  rotate_left
  · obtain rfl : v = Value.ref t := rx
    obtain ⟨its, r, ht', hz⟩ := I.tuple ht
    exact refl_own ht'.typeIs hr.units0 I.kIn J R.tup PySem.F.slot_tuple_eq (fun Q' hq => call_meets PySem.F.slot_tuple_eq ht'.typeIs PySem.F.entry_tuple_eq (PySem.F.args_tuple_eq_2 _ _) (tup_eq_no _ _) ⟨⟨_, C, _, _, I.kIn, J, R.tup⟩, hq⟩) hm.at_ hm.fn hc
  · obtain rfl : v = Value.ref t := rx
    obtain ⟨its, r, ⟨lo, ln, lg, lc, _, _⟩, hz⟩ := I.list ht
    have hl : s.TypeIs (.ref t) "list" := ⟨lo, lg, lc⟩
    exact refl_own hl hr.units0 I.kIn J R.lst PySem.F.slot_list_eq (fun Q' hq => call_meets PySem.F.slot_list_eq hl PySem.F.entry_list_eq (PySem.F.args_list_eq_2 _ _) (lst_eq_no _ _) ⟨⟨_, C, _, _, I.kIn, J, R.lst⟩, hq⟩) hm.at_ hm.fn hc
  cases x with
  | str y =>
    obtain ⟨t, rfl⟩ := (show ∃ t, v = Value.str y t from rx)
    exact refl_own (typeIs_str _ _ _) hr.units0 I.kIn J R.str PySem.F.slot_str_eq (fun Q' hq => call_meets PySem.F.slot_str_eq (typeIs_str _ _ _) PySem.F.entry_str_eq (PySem.F.args_str_eq_2 _ _) (str_eq_no _ _ _ _ _ rfl rfl) ⟨J.at_, hq⟩) hm.at_ hm.fn hc
  | int y =>
    obtain ⟨t, rfl⟩ := (show ∃ t, v = Value.int y t from rx)
    exact refl_own (typeIs_int _ _ _) hr.units0 I.kIn J R.int PySem.F.slot_int_eq (fun Q' hq => call_meets PySem.F.slot_int_eq (typeIs_int _ _ _) PySem.F.entry_int_eq (PySem.F.args_int_eq_2 _ _) (int_eq_no _ _ _ _ _ rfl rfl) ⟨J.at_, hq⟩) hm.at_ hm.fn hc
  | bl y =>
    obtain rfl : v = Value.bool y := rx
    exact refl_own (Ta := "bool") rfl hr.units0 I.kIn J R.bool PySem.F.slot_bool_eq (fun Q' hq => call_meets PySem.F.slot_bool_eq rfl PySem.F.entry_int_eq (PySem.F.args_int_eq_2 _ _) (bool_eq_no _ _ _ _ rfl rfl) ⟨J.at_, hq⟩) hm.at_ hm.fn hc
  | non =>
    obtain rfl : v = Value.none := rx
    exact refl_own (Ta := "NoneType") rfl hr.units0 I.kIn J R.none PySem.F.slot_NoneType_eq (fun Q' hq => call_gives PySem.F.slot_NoneType_eq rfl PySem.F.entry_NoneType_eq (PySem.F.args_NoneType_eq_2 _ _) (PySem.SeqAt.NoneType___eq___none_ref_0 _) hq) hm.at_ hm.fn hc
  | _ => exact hp.elim
end
section
variable {X : Cx} {x : Str} {p : Pos}
theorem pe_globS {z : Str} (hg : Gl X x) (h : ∃ t, X.mg x = some (.str z t)) (hdb : (x == ("__debug__" : Str)) = false := by decide) : PE X (.Name x p) (tC (.str z)) := let ⟨_, e⟩ := h; pe_glob hg e ⟨_, rfl⟩ hdb
theorem pe_globI {z : Int} (hg : Gl X x) (h : ∃ t, X.mg x = some (.int z t)) (hdb : (x == ("__debug__" : Str)) = false := by decide) : PE X (.Name x p) (tC (.int z)) := let ⟨_, e⟩ := h; pe_glob hg e ⟨_, rfl⟩ hdb
end
/-- format of an own class -/
structure Fmt (K : PySem.W.Frag) (C : Addr) : Prop where
  fm : PySem.W.findIn K (.ref C) "__format__" = some (some (.builtin "object.__format__"))
  hm : PySem.W.mroIn K C (.type "object") = some true
end Lay

set_option Elab.async false
set_option linter.all false
set_option maxRecDepth 100000
set_option maxHeartbeats 2000000
namespace Lay
open PySem PySem.Spec PyProof.Rows L2

/-! ### values as trees -/
inductive D where
  | non | bl (b : Bool) | int (i : Int) | str (z : Str) | adr (a : Addr) | ty (n : String)
  | tup (ds : List D) | lst (ds : List D) | rol (ds : List D) | ins (C : Addr) (ns : List Str) (ds : List D) | exn (C : Addr) (ns : List Str) (ds : List D) | dic (ks : List Key) (ds : List D)

def LstAt (K : PySem.W.Frag) (N : Addr → Prop) (H : Hp) (a : Addr) (vs : List V) : Prop := (¬ N a ∧ Rd H a (.lst vs)) ∨ SqL K (fun _ => none) a vs
def TupAt (K : PySem.W.Frag) (N : Addr → Prop) (H : Hp) (a : Addr) (vs : List V) : Prop := (¬ N a ∧ Rd H a (.tup vs)) ∨ SqT K (fun _ => none) a vs
/-- an own exception of the class C at a, its dict od -/
def ExT (C : Addr) (od : Option Addr) (a : Addr) : HO := .ext fun h => ∃ oe, h.get? a = some oe ∧ Zc (.ref C) od oe ∧ ∃ vs, oe.data = .fields vs
theorem exT_ok {P : Program} {w : World} {H : Hp} {h : Heap} {a C : Addr} {od : Option Addr} {oe : Obj} (e : h.get? a = some oe) (z : Zc (.ref C) od oe) (d : ∃ vs, oe.data = .fields vs) : ObjOk P w H h a (ExT C od a) :=
  ⟨⟨oe, e, z, d⟩, ⟨oe, e⟩, fun _ _ ⟨o, q, r⟩ k => ⟨o, k o q, r⟩⟩
mutual
def Rep (K : PySem.W.Frag) (N : Addr → Prop) (H : Hp) : D → V → Prop
  | .non, v => v = .non
  | .bl b, v => v = .bl b
  | .int i, v => v = .int i
  | .str z, v => v = .str z
  | .adr a, v => v = .ref a
  | .ty n, v => v = .ty n
  | .tup ds, v => ∃ a vs, v = .ref a ∧ TupAt K N H a vs ∧ Reps K N H ds vs
  | .lst ds, v => ∃ a vs, v = .ref a ∧ ¬ N a ∧ H a = some (.lst vs) ∧ Reps K N H ds vs
  | .rol ds, v => ∃ a vs, v = .ref a ∧ LstAt K N H a vs ∧ Reps K N H ds vs
  | .ins C ns ds, v => ∃ a dx vs, v = .ref a ∧ ¬ N a ∧ H a = some (.ins C dx (ns.zip vs)) ∧ ns.length = ds.length ∧ Reps K N H ds vs
  | .exn C ns ds, v => ∃ a od vs, v = .ref a ∧ ¬ N a ∧ H a = some (ExT C od a) ∧ ns.length = ds.length ∧ (∀ dd, od = some dd → ¬ N dd ∧ H dd = some (.xd (ns.zip vs).reverse)) ∧ (od = none → ns = []) ∧ Reps K N H ds vs
  | .dic ks ds, v => ∃ a vs, v = .ref a ∧ ¬ N a ∧ H a = some (.dK (ks.zip vs)) ∧ ks.length = ds.length ∧ Reps K N H ds vs
def Reps (K : PySem.W.Frag) (N : Addr → Prop) (H : Hp) : List D → List V → Prop
  | [], vs => vs = []
  | d :: ds, vs => ∃ v r, vs = v :: r ∧ Rep K N H d v ∧ Reps K N H ds r
end
/-- from one world to a later one -/
structure Ext (N : Addr → Prop) (H : Hp) (N' : Addr → Prop) (H' : Hp) : Prop where
  st : ∀ a o, H a = some o → ¬ N a → H' a = some o
  nw : ∀ a, N' a → N a ∨ H a = none
section
variable {K : PySem.W.Frag} {N N' : Addr → Prop} {H H' : Hp}
theorem Ext.not (e : Ext N H N' H') {a : Addr} {o : HO} (h : H a = some o) (n : ¬ N a) : ¬ N' a := fun z => by
  rcases e.nw a z with q | q
  · exact n q
  · rw [q] at h; cases h
theorem Ext.rd (e : Ext N H N' H') {a : Addr} {u : HO} (n : ¬ N a) (h : Rd H a u) : ¬ N' a ∧ Rd H' a u := by
  rcases h with h | ⟨o, h⟩
  · exact ⟨e.not h n, .inl (e.st _ _ h n)⟩
  · exact ⟨e.not h n, .inr ⟨o, e.st _ _ h n⟩⟩
mutual
theorem Rep.mono (e : Ext N H N' H') : ∀ (d : D) (v : V), Rep K N H d v → Rep K N' H' d v
  | .non, v, h | .bl _, v, h | .int _, v, h | .str _, v, h | .adr _, v, h | .ty _, v, h => by simpa only [Rep] using h
  | .tup ds, v, h => by
    rw [Rep] at h ⊢
    obtain ⟨a, vs, h1, h2, h3⟩ := h
    refine ⟨a, vs, h1, ?_, Reps.mono e ds vs h3⟩
    rcases h2 with ⟨n, h2⟩ | h2
    · exact .inl (e.rd n h2)
    · exact .inr h2
  | .rol ds, v, h => by
    rw [Rep] at h ⊢
    obtain ⟨a, vs, h1, h2, h3⟩ := h
    refine ⟨a, vs, h1, ?_, Reps.mono e ds vs h3⟩
    rcases h2 with ⟨n, h2⟩ | h2
    · exact .inl (e.rd n h2)
    · exact .inr h2
  | .lst ds, v, h => by
    rw [Rep] at h ⊢
    obtain ⟨a, vs, h1, h2, h3, h4⟩ := h
    exact ⟨a, vs, h1, e.not h3 h2, e.st _ _ h3 h2, Reps.mono e ds vs h4⟩
  | .ins C ns ds, v, h => by
    rw [Rep] at h ⊢
    obtain ⟨a, dx, vs, h1, h2, h3, h4, h5⟩ := h
    exact ⟨a, dx, vs, h1, e.not h3 h2, e.st _ _ h3 h2, h4, Reps.mono e ds vs h5⟩
  | .exn C ns ds, v, h => by
    rw [Rep] at h ⊢
    obtain ⟨a, od, vs, h1, h2, h3, h4, h5, h6, h7⟩ := h
    exact ⟨a, od, vs, h1, e.not h3 h2, e.st _ _ h3 h2, h4, fun dd q => ⟨e.not (h5 dd q).2 (h5 dd q).1, e.st _ _ (h5 dd q).2 (h5 dd q).1⟩, h6, Reps.mono e ds vs h7⟩
  | .dic ks ds, v, h => by
    rw [Rep] at h ⊢
    obtain ⟨a, vs, h1, h2, h3, h4, h5⟩ := h
    exact ⟨a, vs, h1, e.not h3 h2, e.st _ _ h3 h2, h4, Reps.mono e ds vs h5⟩
theorem Reps.mono (e : Ext N H N' H') : ∀ (ds : List D) (vs : List V), Reps K N H ds vs → Reps K N' H' ds vs
  | [], vs, h => by simpa only [Reps] using h
  | d :: ds, vs, h => by
    rw [Reps] at h ⊢
    obtain ⟨v, r, h1, h2, h3⟩ := h
    exact ⟨v, r, h1, Rep.mono e d v h2, Reps.mono e ds r h3⟩
end
theorem Reps.length : ∀ {ds : List D} {vs : List V}, Reps K N H ds vs → ds.length = vs.length
  | [], vs, h => by rw [Reps] at h; subst h; rfl
  | d :: ds, vs, h => by
    rw [Reps] at h
    obtain ⟨v, r, rfl, h2, h3⟩ := h
    rw [List.length_cons, List.length_cons, Reps.length h3]
theorem Reps.get : ∀ {ds : List D} {vs : List V} {i : Nat} {d : D}, Reps K N H ds vs → ds[i]? = some d → ∃ v, vs[i]? = some v ∧ Rep K N H d v
  | [], vs, i, d, h, e => by simp at e
  | d :: ds, vs, 0, d', h, e => by
    rw [Reps] at h
    obtain ⟨v, r, rfl, h2, h3⟩ := h
    simp at e; subst e
    exact ⟨v, rfl, h2⟩
  | d :: ds, vs, i + 1, d', h, e => by
    rw [Reps] at h
    obtain ⟨v, r, rfl, h2, h3⟩ := h
    obtain ⟨w, h4, h5⟩ := Reps.get (i := i) (d := d') h3 (by simpa using e)
    exact ⟨w, by simpa using h4, h5⟩
theorem Reps.nil : Reps K N H [] [] := by rw [Reps]
theorem Reps.cons {d : D} {v : V} {ds : List D} {vs : List V} (h : Rep K N H d v) (t : Reps K N H ds vs) : Reps K N H (d :: ds) (v :: vs) := by rw [Reps]; exact ⟨v, vs, rfl, h, t⟩
theorem Reps.append : ∀ {ds es : List D} {vs ws : List V}, Reps K N H ds vs → Reps K N H es ws → Reps K N H (ds ++ es) (vs ++ ws)
  | [], es, vs, ws, h, t => by rw [Reps] at h; subst h; exact t
  | d :: ds, es, vs, ws, h, t => by
    rw [Reps] at h
    obtain ⟨v, r, rfl, h2, h3⟩ := h
    exact .cons h2 (Reps.append h3 t)
theorem Reps.take : ∀ {ds : List D} {vs : List V} (n : Nat), Reps K N H ds vs → Reps K N H (ds.take n) (vs.take n)
  | ds, vs, 0, h => .nil
  | [], vs, n + 1, h => by rw [Reps] at h; subst h; exact .nil
  | d :: ds, vs, n + 1, h => by
    rw [Reps] at h
    obtain ⟨v, r, rfl, h2, h3⟩ := h
    exact .cons h2 (Reps.take n h3)
theorem Reps.drop : ∀ {ds : List D} {vs : List V} (n : Nat), Reps K N H ds vs → Reps K N H (ds.drop n) (vs.drop n)
  | ds, vs, 0, h => h
  | [], vs, n + 1, h => by rw [Reps] at h; subst h; exact .nil
  | d :: ds, vs, n + 1, h => by
    rw [Reps] at h
    obtain ⟨v, r, rfl, h2, h3⟩ := h
    exact Reps.drop n h3
theorem Reps.reverse : ∀ {ds : List D} {vs : List V}, Reps K N H ds vs → Reps K N H ds.reverse vs.reverse
  | [], vs, h => by rw [Reps] at h; subst h; exact .nil
  | d :: ds, vs, h => by
    rw [Reps] at h
    obtain ⟨v, r, rfl, h2, h3⟩ := h
    rw [List.reverse_cons, List.reverse_cons]
    exact (Reps.reverse h3).append (.cons h2 .nil)
theorem Reps.ints {ns : List Int} : Reps K N H (ns.map D.int) (ns.map V.int) := by
  induction ns with
  | nil => exact .nil
  | cons n ns ih => exact .cons (by rw [Rep]) ih
theorem Reps.strs {ns : List Str} : Reps K N H (ns.map D.str) (ns.map V.str) := by
  induction ns with
  | nil => exact .nil
  | cons n ns ih => exact .cons (by rw [Rep]) ih
theorem Reps.toInts {ns : List Int} {vs : List V} (h : Reps K N H (ns.map D.int) vs) : vs = ns.map V.int := by
  induction ns generalizing vs with
  | nil => rwa [List.map_nil, Reps] at h
  | cons n ns ih =>
    rw [List.map_cons, Reps] at h
    obtain ⟨v, r, rfl, h2, h3⟩ := h
    rw [Rep] at h2
    rw [h2, ih h3]; rfl
theorem Reps.toStrs {ns : List Str} {vs : List V} (h : Reps K N H (ns.map D.str) vs) : vs = ns.map V.str := by
  induction ns generalizing vs with
  | nil => rwa [List.map_nil, Reps] at h
  | cons n ns ih =>
    rw [List.map_cons, Reps] at h
    obtain ⟨v, r, rfl, h2, h3⟩ := h
    rw [Rep] at h2
    rw [h2, ih h3]; rfl
theorem LstAt.sq {a : Addr} {vs : List V} (h : LstAt K N H a vs) : SqL K H a vs := by
  rcases h with ⟨_, h⟩ | h | h
  · exact .inl h
  · rcases h with h | ⟨_, h⟩ <;> cases h
  · exact .inr h
theorem TupAt.sq {a : Addr} {vs : List V} (h : TupAt K N H a vs) : SqT K H a vs := by
  rcases h with ⟨_, h⟩ | h | h
  · exact .inl h
  · rcases h with h | ⟨_, h⟩ <;> cases h
  · exact .inr h
end

/-! ### the pot -/
def PotAt (H : Hp) (a : Addr) (c : Int) : Prop := ∃ z0 z1 z2 : Int, H a = some (.lst [.int z0, .int z1, .int z2]) ∧ 0 ≤ z0 ∧ 0 ≤ z1 ∧ z1 < 2305843009313693951 ∧ 0 ≤ z2 ∧ z2 ≤ c
structure Z where
  p : Option Addr
  c : Int
def PotOk (H : Hp) (z : Z) : Prop := ∀ a, z.p = some a → PotAt H a z.c
theorem PotAt.ne {H : Hp} {a : Addr} {c : Int} (h : PotAt H a c) : H a ≠ none := by
  obtain ⟨_, _, _, h, _⟩ := h
  rw [h]; exact Option.some_ne_none _
theorem PotAt.to {H H' : Hp} {a : Addr} {c : Int} (h : PotAt H a c) (e : ∀ o, H a = some o → H' a = some o) : PotAt H' a c :=
  let ⟨z0, z1, z2, h1, h2⟩ := h
  ⟨z0, z1, z2, e _ h1, h2⟩

/-! ### the slots -/
inductive Sl where
  | any | val (d : D) | own (ds : List D) | obj (x C : Addr) (ns : List Str) (ds : List D) | exc (a : Addr) (od : Option Addr) (ns : List Str) (ds : List D)
def NN (M : Addr → Prop) (z : Z) (O : Nat → Option Addr) : Addr → Prop := fun a => M a ∨ z.p = some a ∨ ∃ i, O i = some a
def ExAt (K : PySem.W.Frag) (N : Addr → Prop) (H : Hp) : Option Addr → List Str → List D → Prop
  | none, ns, ds => ns = [] ∧ ds = []
  | some d, ns, ds => ¬ N d ∧ ns.length = ds.length ∧ ∃ vs, H d = some (.xd (ns.zip vs).reverse) ∧ Reps K N H ds vs
def SlotOk (K : PySem.W.Frag) (N : Addr → Prop) (H : Hp) (ov : Option V) (s : Sl) (oa : Option Addr) : Prop := match s with
  | .any => oa = none
  | .val d => oa = none ∧ ∃ v, ov = some v ∧ Rep K N H d v
  | .own ds => ∃ a vs, oa = some a ∧ ov = some (.ref a) ∧ H a = some (.lst vs) ∧ Reps K N H ds vs
  | .obj x C ns ds => ∃ a dx vs, oa = some a ∧ a = x ∧ ov = some (.ref a) ∧ H a = some (.ins C dx (ns.zip vs)) ∧ ns.length = ds.length ∧ Reps K N H ds vs
  | .exc a od ns ds => oa = none ∧ ov = some (.ref a) ∧ ExAt K N H od ns ds
theorem ExAt.mono {K : PySem.W.Frag} {N N' : Addr → Prop} {H H' : Hp} (e : Ext N H N' H') : ∀ {od : Option Addr} {ns : List Str} {ds : List D}, ExAt K N H od ns ds → ExAt K N' H' od ns ds
  | none, _, _, h => h
  | some d, ns, ds, ⟨n, l, vs, h, r⟩ => ⟨e.not h n, l, vs, e.st _ _ h n, Reps.mono e _ _ r⟩
structure Wd (K : PySem.W.Frag) (M : Addr → Prop) (H : Hp) (σ : L2.St) (ρ : List Sl) (z : Z) (O : Nat → Option Addr) : Prop where
  len : σ.length = ρ.length
  al : ∀ a, M a → H a ≠ none
  pot : PotOk H z
  pm : ∀ a, z.p = some a → ¬ M a
  ow : ∀ i a, O i = some a → ¬ M a ∧ z.p ≠ some a ∧ H a ≠ none ∧ ∀ j, O j = some a → j = i
  sl : ∀ i s, ρ[i]? = some s → SlotOk K (NN M z O) H (σ[i]?.join) s (O i)
  out : ∀ i, ρ[i]? = none → O i = none
/-- what a statement leaves of the world -/
structure Go (M : Addr → Prop) (H : Hp) (z : Z) (O : Nat → Option Addr) (H' : Hp) (z' : Z) (O' : Nat → Option Addr) : Prop where
  st : ∀ a o, H a = some o → ¬ NN M z O a → H' a = some o
  km : ∀ a o, M a → H a = some o → H' a = some o
  nw : ∀ a, NN M z' O' a → NN M z O a ∨ H a = none
  zp : ∀ a, z'.p = some a → z.p = some a ∨ H a = none
  al : ∀ a, H a ≠ none → H' a ≠ none
/-- .. an expression -/
structure GoE (M : Addr → Prop) (H : Hp) (z : Z) (O : Nat → Option Addr) (H' : Hp) (z' : Z) (O' : Nat → Option Addr) : Prop extends Go M H z O H' z' O' where
  fx : ∀ a o, H a = some o → z.p ≠ some a → H' a = some o
section
variable {K : PySem.W.Frag} {M : Addr → Prop} {H H' H1 H2 : Hp} {σ : L2.St} {ρ : List Sl} {z z' z1 z2 : Z} {O O' O1 O2 : Nat → Option Addr}
theorem Go.ext (g : Go M H z O H' z' O') : Ext (NN M z O) H (NN M z' O') H' := ⟨g.st, g.nw⟩
theorem Go.refl : Go M H z O H z O := ⟨fun _ _ h _ => h, fun _ _ _ h => h, fun _ h => .inl h, fun _ h => .inl h, fun _ h => h⟩
theorem GoE.refl : GoE M H z O H z O := ⟨Go.refl, fun _ _ h _ => h⟩
theorem Go.trans (g : Go M H z O H1 z1 O1) (k : Go M H1 z1 O1 H2 z2 O2) : Go M H z O H2 z2 O2 where
  st := fun a o h n => k.st a o (g.st a o h n) (g.ext.not h n)
  km := fun a o m h => k.km a o m (g.km a o m h)
  nw := fun a h => by
    rcases k.nw a h with q | q
    · exact g.nw a q
    · refine .inr (Classical.byContradiction fun n => g.al a n q)
  zp := fun a h => by
    rcases k.zp a h with q | q
    · exact g.zp a q
    · refine .inr (Classical.byContradiction fun n => g.al a n q)
  al := fun a h => k.al a (g.al a h)
theorem GoE.trans (g : GoE M H z O H1 z1 O1) (k : GoE M H1 z1 O1 H2 z2 O2) : GoE M H z O H2 z2 O2 := ⟨g.toGo.trans k.toGo, fun a o h n => k.fx a o (g.fx a o h n) fun q => by
  rcases g.zp a q with q | q
  · exact n q
  · rw [q] at h; cases h⟩
theorem Wd.alloc (w : Wd K M H σ ρ z O) : ∀ a, NN M z O a → H a ≠ none := by
  rintro a (h | h | ⟨i, h⟩)
  · exact w.al a h
  · exact (w.pot a h).ne
  · exact (w.ow i a h).2.2.1
/-- the heap grows alone -/
theorem Wd.grow (w : Wd K M H σ ρ z O) (s : Same H H') : Wd K M H' σ ρ z O ∧ GoE M H z O H' z O := by
  have al : ∀ a, H a ≠ none → H' a ≠ none := fun a h => by
    cases e : H a with
    | none => exact absurd e h
    | some o => rw [s a o e]; exact Option.some_ne_none _
  have g : GoE M H z O H' z O := ⟨⟨fun a o h _ => s a o h, fun a o _ h => s a o h, fun a h => .inl h, fun a h => .inl h, al⟩, fun a o h _ => s a o h⟩
  refine ⟨⟨w.len, fun a h => al a (w.al a h), fun a h => (w.pot a h).to fun o q => s a o q, w.pm, fun i a h => ?_, fun i sl h => ?_, w.out⟩, g⟩
  · obtain ⟨h1, h2, h3, h4⟩ := w.ow i a h
    exact ⟨h1, h2, al a h3, h4⟩
  · have q := w.sl i sl h
    cases sl with
    | any => exact q
    | val d => obtain ⟨q1, v, q2, q3⟩ := q; exact ⟨q1, v, q2, Rep.mono g.ext d v q3⟩
    | own ds => obtain ⟨a, vs, q1, q2, q3, q4⟩ := q; exact ⟨a, vs, q1, q2, s _ _ q3, Reps.mono g.ext _ _ q4⟩
    | obj x C ns ds => obtain ⟨a, dx, vs, q1, q0, q2, q3, q4, q5⟩ := q; exact ⟨a, dx, vs, q1, q0, q2, s _ _ q3, q4, Reps.mono g.ext _ _ q5⟩
    | exc a od ns ds => obtain ⟨q1, q2, q3⟩ := q; exact ⟨q1, q2, q3.mono g.ext⟩
end

/-! ### values on their way: an own list or instance may be looked at -/
def RepP (K : PySem.W.Frag) (N : Addr → Prop) (z : Z) (H : Hp) (d : D) (v : V) : Prop := Rep K N H d v ∨
  (∃ a ds vs, d = .lst ds ∧ v = .ref a ∧ z.p ≠ some a ∧ H a = some (.lst vs) ∧ Reps K N H ds vs) ∨
  ∃ a C dx ns ds vs, d = .ins C ns ds ∧ v = .ref a ∧ z.p ≠ some a ∧ H a = some (.ins C dx (ns.zip vs)) ∧ ns.length = ds.length ∧ Reps K N H ds vs
def RepPs (K : PySem.W.Frag) (N : Addr → Prop) (z : Z) (H : Hp) : List D → List V → Prop
  | [], vs => vs = []
  | d :: ds, vs => ∃ v r, vs = v :: r ∧ RepP K N z H d v ∧ RepPs K N z H ds r
theorem RepP.mono {K : PySem.W.Frag} {M : Addr → Prop} {H H' : Hp} {z z' : Z} {O O' : Nat → Option Addr} {d : D} {v : V} (g : GoE M H z O H' z' O') (h : RepP K (NN M z O) z H d v) : RepP K (NN M z' O') z' H' d v := by
  have np : ∀ a o, H a = some o → z.p ≠ some a → z'.p ≠ some a := fun a o h n q => by
    rcases g.zp a q with q | q
    · exact n q
    · rw [q] at h; cases h
  rcases h with h | ⟨a, ds, vs, h1, h2, h3, h4, h5⟩ | ⟨a, C, dx, ns, ds, vs, h1, h2, h3, h4, h5, h6⟩
  · exact .inl (Rep.mono g.ext d v h)
  · exact .inr (.inl ⟨a, ds, vs, h1, h2, np a _ h4 h3, g.fx _ _ h4 h3, Reps.mono g.ext _ _ h5⟩)
  · exact .inr (.inr ⟨a, C, dx, ns, ds, vs, h1, h2, np a _ h4 h3, g.fx _ _ h4 h3, h5, Reps.mono g.ext _ _ h6⟩)
theorem RepPs.mono {K : PySem.W.Frag} {M : Addr → Prop} {H H' : Hp} {z z' : Z} {O O' : Nat → Option Addr} (g : GoE M H z O H' z' O') : ∀ {ds : List D} {vs : List V}, RepPs K (NN M z O) z H ds vs → RepPs K (NN M z' O') z' H' ds vs
  | [], vs, h => h
  | d :: ds, vs, ⟨v, r, h1, h2, h3⟩ => ⟨v, r, h1, h2.mono g, RepPs.mono g h3⟩
section
variable {K : PySem.W.Frag} {N : Addr → Prop} {z : Z} {H : Hp} {v : V}
theorem RepP.int {i : Int} (h : RepP K N z H (.int i) v) : v = .int i := by
  rcases h with h | ⟨a, ds, vs, h1, _⟩ | ⟨a, C, dx, ns, ds, vs, h1, _⟩
  · rwa [Rep] at h
  · cases h1
  · cases h1
theorem RepP.str {i : Str} (h : RepP K N z H (.str i) v) : v = .str i := by
  rcases h with h | ⟨a, ds, vs, h1, _⟩ | ⟨a, C, dx, ns, ds, vs, h1, _⟩
  · rwa [Rep] at h
  · cases h1
  · cases h1
theorem RepP.bl {i : Bool} (h : RepP K N z H (.bl i) v) : v = .bl i := by
  rcases h with h | ⟨a, ds, vs, h1, _⟩ | ⟨a, C, dx, ns, ds, vs, h1, _⟩
  · rwa [Rep] at h
  · cases h1
  · cases h1
theorem RepP.non (h : RepP K N z H .non v) : v = .non := by
  rcases h with h | ⟨a, ds, vs, h1, _⟩ | ⟨a, C, dx, ns, ds, vs, h1, _⟩
  · rwa [Rep] at h
  · cases h1
  · cases h1
theorem RepP.adr {a : Addr} (h : RepP K N z H (.adr a) v) : v = .ref a := by
  rcases h with h | ⟨a, ds, vs, h1, _⟩ | ⟨a, C, dx, ns, ds, vs, h1, _⟩
  · rwa [Rep] at h
  · cases h1
  · cases h1
theorem RepP.ty {a : String} (h : RepP K N z H (.ty a) v) : v = .ty a := by
  rcases h with h | ⟨a, ds, vs, h1, _⟩ | ⟨a, C, dx, ns, ds, vs, h1, _⟩
  · rwa [Rep] at h
  · cases h1
  · cases h1
theorem RepP.tup {ds : List D} (h : RepP K N z H (.tup ds) v) : ∃ a vs, v = .ref a ∧ SqT K H a vs ∧ Reps K N H ds vs := by
  rcases h with h | ⟨a, ds, vs, h1, _⟩ | ⟨a, C, dx, ns, ds, vs, h1, _⟩
  · rw [Rep] at h
    obtain ⟨a, vs, h1, h2, h3⟩ := h
    exact ⟨a, vs, h1, h2.sq, h3⟩
  · cases h1
  · cases h1
theorem RepP.lst {ds : List D} (h : RepP K N z H (.lst ds) v) : ∃ a vs, v = .ref a ∧ H a = some (.lst vs) ∧ Reps K N H ds vs := by
  rcases h with h | ⟨a, ds, vs, h1, h2, _, h3, h4⟩ | ⟨a, C, dx, ns, ds, vs, h1, _⟩
  · rw [Rep] at h
    obtain ⟨a, vs, h1, _, h2, h3⟩ := h
    exact ⟨a, vs, h1, h2, h3⟩
  · cases h1
    exact ⟨a, vs, h2, h3, h4⟩
  · cases h1
theorem RepP.rol {ds : List D} (h : RepP K N z H (.rol ds) v) : ∃ a vs, v = .ref a ∧ SqL K H a vs ∧ Reps K N H ds vs := by
  rcases h with h | ⟨a, ds, vs, h1, _⟩ | ⟨a, C, dx, ns, ds, vs, h1, _⟩
  · rw [Rep] at h
    obtain ⟨a, vs, h1, h2, h3⟩ := h
    exact ⟨a, vs, h1, h2.sq, h3⟩
  · cases h1
  · cases h1
theorem RepP.ins {C : Addr} {ns : List Str} {ds : List D} (h : RepP K N z H (.ins C ns ds) v) : ∃ a dx vs, v = .ref a ∧ H a = some (.ins C dx (ns.zip vs)) ∧ ns.length = ds.length ∧ Reps K N H ds vs := by
  rcases h with h | ⟨a, ds, vs, h1, _⟩ | ⟨a, C, dx, ns, ds, vs, h1, h2, _, h3, h4, h5⟩
  · rw [Rep] at h
    obtain ⟨a, dx, vs, h1, _, h2, h3, h4⟩ := h
    exact ⟨a, dx, vs, h1, h2, h3, h4⟩
  · cases h1
  · cases h1
    exact ⟨a, dx, vs, h2, h3, h4, h5⟩
theorem RepP.exn {C : Addr} {ns : List Str} {ds : List D} (h : RepP K N z H (.exn C ns ds) v) : ∃ a od vs, v = .ref a ∧ H a = some (ExT C od a) ∧ ns.length = ds.length ∧ (∀ dd, od = some dd → H dd = some (.xd (ns.zip vs).reverse)) ∧ (od = none → ns = []) ∧ Reps K N H ds vs := by
  rcases h with h | ⟨a, ds, vs, h1, _⟩ | ⟨a, C, dx, ns, ds, vs, h1, _⟩
  · rw [Rep] at h
    obtain ⟨a, od, vs, h1, _, h2, h3, h4, h5, h6⟩ := h
    exact ⟨a, od, vs, h1, h2, h3, fun dd q => (h4 dd q).2, h5, h6⟩
  · cases h1
  · cases h1
theorem RepP.dic {ks : List Key} {ds : List D} (h : RepP K N z H (.dic ks ds) v) : ∃ a vs, v = .ref a ∧ H a = some (.dK (ks.zip vs)) ∧ ks.length = ds.length ∧ Reps K N H ds vs := by
  rcases h with h | ⟨a, ds, vs, h1, _⟩ | ⟨a, C, dx, ns, ds, vs, h1, _⟩
  · rw [Rep] at h
    obtain ⟨a, vs, h1, _, h2, h3, h4⟩ := h
    exact ⟨a, vs, h1, h2, h3, h4⟩
  · cases h1
  · cases h1
theorem RepPs.nil : RepPs K N z H [] [] := rfl
theorem RepPs.cons {d : D} {ds : List D} {vs : List V} (h : RepP K N z H d v) (t : RepPs K N z H ds vs) : RepPs K N z H (d :: ds) (v :: vs) := ⟨v, vs, rfl, h, t⟩
theorem RepPs.one {d : D} {vs : List V} (h : RepPs K N z H [d] vs) : ∃ v, vs = [v] ∧ RepP K N z H d v := by
  obtain ⟨v, r, rfl, h1, rfl⟩ := h
  exact ⟨v, rfl, h1⟩
theorem RepPs.two {d e : D} {vs : List V} (h : RepPs K N z H [d, e] vs) : ∃ v w, vs = [v, w] ∧ RepP K N z H d v ∧ RepP K N z H e w := by
  obtain ⟨v, r, rfl, h1, w, r, rfl, h2, rfl⟩ := h
  exact ⟨v, w, rfl, h1, h2⟩
/-- what was just laid -/
theorem Rep.lstNew {H' : Hp} {p : Addr} {ds : List D} {vs : List V} (al : ∀ a, N a → H a ≠ none) (hp : H p = none) (s : Same H H') (h : H' p = some (.lst vs)) (r : Reps K N H ds vs) : Rep K N H' (.lst ds) (.ref p) := by
  rw [Rep]
  exact ⟨p, vs, rfl, fun n => al p n hp, h, Reps.mono ⟨fun a o e _ => s a o e, fun a h => .inl h⟩ _ _ r⟩
theorem Rep.tupNew {H' : Hp} {p : Addr} {ds : List D} {vs : List V} (al : ∀ a, N a → H a ≠ none) (hp : H p = none) (s : Same H H') (h : H' p = some (.tup vs)) (r : Reps K N H ds vs) : Rep K N H' (.tup ds) (.ref p) := by
  rw [Rep]
  exact ⟨p, vs, rfl, .inl ⟨fun n => al p n hp, .inl h⟩, Reps.mono ⟨fun a o e _ => s a o e, fun a h => .inl h⟩ _ _ r⟩
theorem ext_same {H' : Hp} (s : Same H H') : Ext N H N H' := ⟨fun a o e _ => s a o e, fun a h => .inl h⟩
end
end Lay

set_option Elab.async false
set_option linter.all false
set_option maxRecDepth 100000
set_option maxHeartbeats 2000000
namespace Lay
open PySem PySem.Spec PyProof.Rows L2

/-! ### readings over trees -/
abbrev KX := Addr → List Str → List D → List Sl → Z → Prop
abbrev DX (α : Type) := List Sl → Z → (α → List Sl → Z → Prop) → KX → Prop
def XOk (K : PySem.W.Frag) (M : Addr → Prop) (W : WX) (H : Hp) (z : Z) (O : Nat → Option Addr) (RX : KX) : Prop :=
  ∀ C ns ds ρ' z' od H' O' σ', RX C ns ds ρ' z' → Go M H z O H' z' O' → Wd K M H' σ' ρ' z' O' → ExAt K (NN M z' O') H' od ns ds → W (.ref C) od σ' H'
theorem XOk.after {K : PySem.W.Frag} {M : Addr → Prop} {W : WX} {H H1 : Hp} {z z1 : Z} {O O1 : Nat → Option Addr} {RX : KX} (x : XOk K M W H z O RX) (g : Go M H z O H1 z1 O1) : XOk K M W H1 z1 O1 RX :=
  fun C ns ds ρ' z' od H' O' σ' h k w e => x C ns ds ρ' z' od H' O' σ' h (g.trans k) w e
def UG {α β : Type} (K : PySem.W.Frag) (W : WX) (rel : (Addr → Prop) → Z → Hp → α → β → Prop) (t : DX α) (σ : L2.St) (H : Hp) (Q : β → Hp → Prop) : Prop :=
  ∃ M ρ z O R RX, Wd K M H σ ρ z O ∧ t ρ z R RX ∧ XOk K M W H z O RX ∧
    ∀ d ρ' z' v H' O', R d ρ' z' → GoE M H z O H' z' O' → Wd K M H' σ ρ' z' O' → rel (NN M z' O') z' H' d v → Q v H'
abbrev relE (K : PySem.W.Frag) : (Addr → Prop) → Z → Hp → D → V → Prop := fun N _ H d v => Rep K N H d v
abbrev relEs (K : PySem.W.Frag) : (Addr → Prop) → Z → Hp → List D → List V → Prop := fun N _ H d v => Reps K N H d v
abbrev relB : (Addr → Prop) → Z → Hp → Bool → Bool → Prop := fun _ _ _ b c => c = b
def DE (X : Cx) (W : WX) (e : Expr) (t : DX D) : Prop := PE X e (UG X.K W (relE X.K) t)
def DP (X : Cx) (W : WX) (e : Expr) (t : DX D) : Prop := PE X e (UG X.K W (RepP X.K) t)
def DT (X : Cx) (W : WX) (e : Expr) (t : DX Bool) : Prop := PT X e (UG X.K W relB t)
def DWt (X : Cx) (W : WX) (e : Expr) (t : DX Bool) : Prop := PW X e (UG X.K W relB t)
def DA (X : Cx) (W : WX) (es : List Expr) (t : DX (List D)) : Prop := PA X es (UG X.K W (RepPs X.K) t)
def DAs (X : Cx) (W : WX) (es : List Expr) (t : DX (List D)) : Prop := PA X es (UG X.K W (relEs X.K) t)
def DKw (X : Cx) (W : WX) (es : List Keyword) (t : DX (List D)) : Prop := PK X es (UG X.K W (relEs X.K) t)
section
variable {X : Cx} {W : WX} {e a b : Expr} {es : List Expr} {pos : Pos}
theorem pe_to {t t' : TE} (h : PE X e t) (i : ∀ σ H Q, t' σ H Q → t σ H Q) : PE X e t' := ⟨fun pins s σ H Q I q => h.run pins s σ H Q I (i σ H Q q)⟩
theorem pt_to {t t' : TT} (h : PT X e t) (i : ∀ σ H Q, t' σ H Q → t σ H Q) : PT X e t' := ⟨fun pins s σ H Q I q => h.run pins s σ H Q I (i σ H Q q)⟩
theorem pw_to {t t' : TT} (h : PW X e t) (i : ∀ σ H Q, t' σ H Q → t σ H Q) : PW X e t' := ⟨fun whole pins s σ H Q I q => h.run whole pins s σ H Q I (i σ H Q q)⟩
theorem pa_to {t t' : TA} (h : PA X es t) (i : ∀ σ H Q, t' σ H Q → t σ H Q) : PA X es t' := ⟨fun pos pins s σ H Q I q => h.run pos pins s σ H Q I (i σ H Q q)⟩
theorem pk_to {es : List Keyword} {t t' : TA} (h : PK X es t) (i : ∀ σ H Q, t' σ H Q → t σ H Q) : PK X es t' := ⟨fun pos pins s σ H Q I q => h.run pos pins s σ H Q I (i σ H Q q)⟩
theorem ps_to {st : Stmt} {t t' : TS} (h : PS X st t) (i : ∀ D σ H, t' D σ H → t D σ H) : PS X st t' := ⟨fun pins s σ H D I q => h.run pins s σ H D I (i D σ H q)⟩
theorem pss_to {st : List Stmt} {t t' : TS} (h : PSs X st t) (i : ∀ D σ H, t' D σ H → t D σ H) : PSs X st t' := ⟨fun pins s σ H D I q => h.run pins s σ H D I (i D σ H q)⟩

theorem dp_of {t : DX D} (h : DE X W e t) : DP X W e t := pe_to h fun σ H Q ⟨M, ρ, z, O, R, RX, w, h, x, k⟩ => ⟨M, ρ, z, O, R, RX, w, h, x, fun d ρ' z' v H' O' r g w' q => k d ρ' z' v H' O' r g w' (.inl q)⟩

/-! ### names, constants -/
def dVar (i : Nat) : DX D := fun ρ z R RX => match ρ[i]? with
  | some (.val d) => R d ρ z
  | some (.own ds) => R (.lst ds) (ρ.set i (.val (.lst ds))) z
  | _ => False
def dPeek (i : Nat) : DX D := fun ρ z R RX => match ρ[i]? with
  | some (.val d) => R d ρ z
  | some (.own ds) => R (.lst ds) ρ z
  | some (.obj _ C ns ds) => R (.ins C ns ds) ρ z
  | some (.exc a _ _ _) => R (.adr a) ρ z
  | _ => False
def dC (d : D) : DX D := fun ρ z R RX => R d ρ z
/-- slot i let go of -/
def off (O : Nat → Option Addr) (i : Nat) : Nat → Option Addr := fun j => if j = i then none else O j
theorem NN.off {M : Addr → Prop} {z : Z} {O : Nat → Option Addr} {i : Nat} {a : Addr} (h : NN M z (off O i) a) : NN M z O a := by
  rcases h with h | h | ⟨j, h⟩
  · exact .inl h
  · exact .inr (.inl h)
  · unfold Lay.off at h
    split at h
    · cases h
    · exact .inr (.inr ⟨j, h⟩)
theorem SlotOk.mono {K : PySem.W.Frag} {N N' : Addr → Prop} {H H' : Hp} {ov : Option V} {s : Sl} {oa : Option Addr} (e : Ext N H N' H') (ko : ∀ a o, oa = some a → H a = some o → H' a = some o) (h : SlotOk K N H ov s oa) : SlotOk K N' H' ov s oa := by
  cases s with
  | any => exact h
  | val d => obtain ⟨q1, v, q2, q3⟩ := h; exact ⟨q1, v, q2, Rep.mono e d v q3⟩
  | own ds => obtain ⟨a, vs, q1, q2, q3, q4⟩ := h; exact ⟨a, vs, q1, q2, ko _ _ q1 q3, Reps.mono e _ _ q4⟩
  | obj x C ns ds => obtain ⟨a, dx, vs, q1, q0, q2, q3, q4, q5⟩ := h; exact ⟨a, dx, vs, q1, q0, q2, ko _ _ q1 q3, q4, Reps.mono e _ _ q5⟩
  | exc a od ns ds => obtain ⟨q1, q2, q3⟩ := h; exact ⟨q1, q2, q3.mono e⟩
/-- slot i is given a value that is no own thing -/
theorem Wd.setv {K : PySem.W.Frag} {M : Addr → Prop} {H : Hp} {σ σ' : L2.St} {ρ : List Sl} {z : Z} {O : Nat → Option Addr} (w : Wd K M H σ ρ z O) (i : Nat) (s : Sl)
    (hl : σ'.length = σ.length) (hσ : ∀ j, j ≠ i → σ'[j]? = σ[j]?) (hs : i < ρ.length → SlotOk K (NN M z (off O i)) H (σ'[i]?.join) s none) : Wd K M H σ' (ρ.set i s) z (off O i) where
  len := by rw [List.length_set, hl]; exact w.len
  al := w.al
  pot := w.pot
  pm := w.pm
  ow := fun j a h => by
    have h' : O j = some a := by
      unfold off at h
      split at h
      · cases h
      · exact h
    obtain ⟨h1, h2, h3, h4⟩ := w.ow j a h'
    refine ⟨h1, h2, h3, fun l e => h4 l ?_⟩
    unfold off at e
    split at e
    · cases e
    · exact e
  sl := fun j s' h => by
    by_cases hj : j = i
    · subst hj
      have hi : j < ρ.length := by
        rcases Nat.lt_or_ge j ρ.length with q | q
        · exact q
        · rw [List.getElem?_eq_none (by rw [List.length_set]; exact q)] at h; cases h
      rw [List.getElem?_set_self hi] at h
      cases h
      have e : off O j j = none := by unfold off; rw [if_pos rfl]
      rw [e]
      exact hs hi
    · rw [List.getElem?_set_ne (Ne.symm hj)] at h
      have e : off O i j = O j := by unfold off; rw [if_neg hj]
      rw [hσ j hj, e]
      exact (w.sl j s' h).mono ⟨fun a o q _ => q, fun a q => .inl q.off⟩ fun _ _ _ q => q
  out := fun j h => by
    unfold off
    split
    · rfl
    · refine w.out j ?_
      rw [List.getElem?_eq_none_iff, List.length_set] at h
      exact List.getElem?_eq_none_iff.mpr h
theorem GoE.off {M : Addr → Prop} {H : Hp} {z : Z} {O : Nat → Option Addr} {i : Nat} : GoE M H z O H z (off O i) :=
  ⟨⟨fun a o h _ => h, fun a o _ h => h, fun a h => .inl h.off, fun a h => .inl h, fun a h => h⟩, fun a o h _ => h⟩
theorem join_some {α : Type} {o : Option (Option α)} {a : α} (h : o.join = some a) : o = some (some a) := by
  cases o with
  | none => cases h
  | some o => exact congrArg some h
theorem Wd.freeze {K : PySem.W.Frag} {M : Addr → Prop} {H : Hp} {σ : L2.St} {ρ : List Sl} {z : Z} {O : Nat → Option Addr} (w : Wd K M H σ ρ z O) {i : Nat} {ds : List D} (h : ρ[i]? = some (.own ds)) :
    ∃ a, σ[i]? = some (some (.ref a)) ∧ Rep K (NN M z (off O i)) H (.lst ds) (.ref a) ∧ Wd K M H σ (ρ.set i (.val (.lst ds))) z (off O i) := by
  obtain ⟨a, vs, q1, q2, q3, q4⟩ := w.sl i _ h
  obtain ⟨h1, h2, h3, h4⟩ := w.ow i a q1
  have na : ¬ NN M z (Lay.off O i) a := by
    rintro (q | q | ⟨j, q⟩)
    · exact h1 q
    · exact h2 q
    · unfold Lay.off at q
      split at q
      · cases q
      · exact absurd (h4 j q) ‹_›
  have r : Rep K (NN M z (Lay.off O i)) H (.lst ds) (.ref a) := by
    rw [Rep]
    exact ⟨a, vs, rfl, na, q3, Reps.mono ⟨fun a o q _ => q, fun a q => .inl q.off⟩ _ _ q4⟩
  exact ⟨a, join_some q2, r, w.setv i _ rfl (fun _ _ => rfl) fun _ => ⟨rfl, _, q2, r⟩⟩
theorem de_var (i : Nat) {x : Str} (hN : X.N[i]? = some x := by rfl) (hv : Vis X.env.scope x := by first | exact Or.inl rfl | exact Or.inr (Or.inl rfl) | exact Or.inr (Or.inr rfl)) (hd : (x == ("__debug__" : Str)) = false := by decide)
    (hcd : (x == ("__classdict__" : Str)) = false := by decide) : DE X W (.Name x pos) (dVar i) := by
  refine pe_to (pe_var hN hv hd hcd) fun σ H Q ⟨M, ρ, z, O, R, RX, w, h, x, k⟩ => ?_
  unfold dVar at h
  split at h
  · rename_i d e
    obtain ⟨q1, v, q2, q3⟩ := w.sl i _ e
    exact ⟨v, join_some q2, k d ρ z v H O h .refl w q3⟩
  · rename_i ds e
    obtain ⟨a, q1, q2, q3⟩ := w.freeze e
    exact ⟨_, q1, k _ _ z _ H _ h .off q3 q2⟩
  · exact h.elim
theorem dp_var (i : Nat) {x : Str} (hN : X.N[i]? = some x := by rfl) (hv : Vis X.env.scope x := by first | exact Or.inl rfl | exact Or.inr (Or.inl rfl) | exact Or.inr (Or.inr rfl)) (hd : (x == ("__debug__" : Str)) = false := by decide)
    (hcd : (x == ("__classdict__" : Str)) = false := by decide) : DP X W (.Name x pos) (dPeek i) := by
  refine pe_to (pe_var hN hv hd hcd) fun σ H Q ⟨M, ρ, z, O, R, RX, w, h, x, k⟩ => ?_
  unfold dPeek at h
  split at h
  · rename_i d e
    obtain ⟨q1, v, q2, q3⟩ := w.sl i _ e
    exact ⟨v, join_some q2, k d ρ z v H O h .refl w (.inl q3)⟩
  · rename_i ds e
    obtain ⟨a, vs, q1, q2, q3, q4⟩ := w.sl i _ e
    exact ⟨_, join_some q2, k _ _ z _ H O h .refl w (.inr (.inl ⟨a, ds, vs, rfl, rfl, (w.ow i a q1).2.1, q3, q4⟩))⟩
  · rename_i x' C ns ds e
    obtain ⟨a, dx, vs, q1, q0, q2, q3, q4, q5⟩ := w.sl i _ e
    exact ⟨_, join_some q2, k _ _ z _ H O h .refl w (.inr (.inr ⟨a, C, dx, ns, ds, vs, rfl, rfl, (w.ow i a q1).2.1, q3, q4, q5⟩))⟩
  · rename_i a od ns ds e
    obtain ⟨q1, q2, q3⟩ := w.sl i _ e
    exact ⟨_, join_some q2, k _ _ z _ H O h .refl w (.inl (by rw [Rep]))⟩
  · exact h.elim
theorem de_c {v : V} {d : D} (h : PE X e (tC v)) (r : ∀ N H, Rep X.K N H d v) : DE X W e (dC d) := pe_to h fun σ H Q ⟨M, ρ, z, O, R, RX, w, h, x, k⟩ => k d ρ z v H O h .refl w (r _ _)
theorem de_int {i j} : DE X W (.Constant (.int i) j pos) (dC (.int i)) := de_c pe_int fun _ _ => by rw [Rep]
theorem de_bl {b j} : DE X W (.Constant (.bool b) j pos) (dC (.bl b)) := de_c pe_bl fun _ _ => by rw [Rep]
theorem de_non {j} : DE X W (.Constant .none j pos) (dC .non) := de_c pe_non fun _ _ => by rw [Rep]
theorem de_str {x j} : DE X W (.Constant (.str x) j pos) (dC (.str x)) := de_c pe_str fun _ _ => by rw [Rep]

/-! ### operators on values -/
abbrev Op2 := D → D → (D → Prop) → Prop
def OpU (K : PySem.W.Frag) (f : Op2) : R2 := fun x y H Q => ∃ N z d1 d2 R, (∀ a, N a → H a ≠ none) ∧ RepP K N z H d1 x ∧ RepP K N z H d2 y ∧ f d1 d2 R ∧ ∀ d v H', R d → Same H H' → Rep K N H' d v → Q v H'
def dOp (f : Op2) (ta tb : DX D) : DX D := fun ρ z R RX => ta ρ z (fun d1 ρ1 z1 => tb ρ1 z1 (fun d2 ρ2 z2 => f d1 d2 fun d => R d ρ2 z2) RX) RX
theorem UG.op {K : PySem.W.Frag} {W : WX} {f : Op2} {ta tb : DX D} {σ : L2.St} {H : Hp} {Q : VK} (h : UG K W (relE K) (dOp f ta tb) σ H Q) :
    UG K W (RepP K) ta σ H fun x H1 => UG K W (RepP K) tb σ H1 fun y H2 => OpU K f x y H2 Q := by
  obtain ⟨M, ρ, z, O, R, RX, w, h, x, k⟩ := h
  refine ⟨M, ρ, z, O, _, RX, w, h, x, fun d1 ρ1 z1 v1 H1 O1 h1 g1 w1 r1 => ?_⟩
  refine ⟨M, ρ1, z1, O1, _, RX, w1, h1, x.after g1.toGo, fun d2 ρ2 z2 v2 H2 O2 h2 g2 w2 r2 => ?_⟩
  refine ⟨_, z2, d1, d2, _, w2.alloc, r1.mono g2, r2, h2, fun d v H' hd s r => ?_⟩
  obtain ⟨w3, g3⟩ := w2.grow s
  exact k d ρ2 z2 v H' O2 hd (g1.trans (g2.trans g3)) w3 r
theorem de_op {op : Operator} {f : Op2} {ta tb : DX D} (ho : OpR X (binaryOp op) (OpU X.K f)) (ha : DP X W a ta) (hb : DP X W b tb) : DE X W (.BinOp a op b pos) (dOp f ta tb) := pe_to (pe_op ho ha hb) fun _ _ _ h => h.op
theorem de_cmp {op : CmpOp} {f : Op2} {ta tb : DX D} (ho : OpR X (compareOp op) (OpU X.K f)) (ha : DP X W a ta) (hb : DP X W b tb) (hm : behindInMarks op b = false) : DE X W (.Compare a [op] [b] pos) (dOp f ta tb) := pe_to (pe_cmpR ho ha hb hm) fun _ _ _ h => h.op
theorem de_ix {f : Op2} {ta tb : DX D} (ho : IxR X (OpU X.K f)) (ha : DP X W a ta) (hb : DP X W b tb) (hs : PlainIx b) : DE X W (.Subscript a b pos) (dOp f ta tb) := pe_to (pe_ix ho ha hb hs) fun _ _ _ h => h.op
def dTest (t : DX D) : DX Bool := fun ρ z R RX => t ρ z (fun d ρ' z' => match d with | .bl b => R b ρ' z' | _ => False) RX
theorem UG.test {K : PySem.W.Frag} {W : WX} {t : DX D} {σ : L2.St} {H : Hp} {Q : Bool → Hp → Prop} (h : UG K W relB (dTest t) σ H Q) : UG K W (relE K) t σ H fun x H' => ∃ k, x = .bl k ∧ Q k H' := by
  obtain ⟨M, ρ, z, O, R, RX, w, h, x, k⟩ := h
  refine ⟨M, ρ, z, O, _, RX, w, h, x, fun d ρ' z' v H' O' hd g w' r => ?_⟩
  cases d with
  | bl b =>
    exact ⟨b, RepP.bl (z := z') (.inl r), k b ρ' z' b H' O' hd g w' rfl⟩
  | _ => exact hd.elim
theorem UG.weak {α β : Type} {K : PySem.W.Frag} {W : WX} {rel : (Addr → Prop) → Z → Hp → α → β → Prop} {t : DX α} {σ : L2.St} {H : Hp} {Q Q' : β → Hp → Prop} (h : UG K W rel t σ H Q) (i : ∀ v H', Q v H' → Q' v H') : UG K W rel t σ H Q' := by
  obtain ⟨M, ρ, z, O, R, RX, w, h, x, k⟩ := h
  exact ⟨M, ρ, z, O, R, RX, w, h, x, fun d ρ' z' v H' O' hd g w' r => i _ _ (k d ρ' z' v H' O' hd g w' r)⟩
theorem dt_cmp {op : CmpOp} {f : Op2} {ta tb : DX D} (ho : OpR X (compareOp op) (OpU X.K f)) (ha : DP X W a ta) (hb : DP X W b tb) (hm : behindInMarks op b = false) : DT X W (.Compare a [op] [b] pos) (dTest (dOp f ta tb)) :=
  pt_to (pt_cmpR ho ha hb hm) fun _ _ _ h => h.test.op
def dChain (f g : Op2) (ta tb tc : DX D) : DX D := fun ρ z R RX => ta ρ z (fun d1 ρ1 z1 => tb ρ1 z1 (fun d2 ρ2 z2 => f d1 d2 fun d => match d with
  | .bl true => tc ρ2 z2 (fun d3 ρ3 z3 => g d2 d3 fun d => R d ρ3 z3) RX
  | .bl false => R (.bl false) ρ2 z2
  | _ => False) RX) RX
theorem UG.chain {K : PySem.W.Frag} {W : WX} {f g : Op2} {ta tb tc : DX D} {σ : L2.St} {H : Hp} {Q : VK} (h : UG K W (relE K) (dChain f g ta tb tc) σ H Q) :
    tChain (OpU K f) (OpU K g) (UG K W (RepP K) ta) (UG K W (RepP K) tb) (UG K W (RepP K) tc) σ H Q := by
  obtain ⟨M, ρ, z, O, R, RX, w, h, x, k⟩ := h
  refine ⟨M, ρ, z, O, _, RX, w, h, x, fun d1 ρ1 z1 v1 H1 O1 h1 g1 w1 r1 => ?_⟩
  refine ⟨M, ρ1, z1, O1, _, RX, w1, h1, x.after g1.toGo, fun d2 ρ2 z2 v2 H2 O2 h2 g2 w2 r2 => ?_⟩
  refine ⟨_, z2, d1, d2, _, w2.alloc, r1.mono g2, r2, h2, fun d v H3 hd s r => ?_⟩
  obtain ⟨w3, g3⟩ := w2.grow s
  cases d with
  | bl b =>
    refine ⟨b, RepP.bl (z := z2) (.inl r), ?_⟩
    cases b with
    | false => rw [if_neg Bool.false_ne_true]; exact k _ ρ2 z2 _ H3 O2 hd (g1.trans (g2.trans g3)) w3 (by unfold relE; rw [Rep])
    | true =>
      rw [if_pos rfl]
      refine ⟨M, ρ2, z2, O2, _, RX, w3, hd, x.after (g1.trans (g2.trans g3)).toGo, fun d3 ρ3 z3 v3 H4 O4 h4 g4 w4 r4 => ?_⟩
      refine ⟨_, z3, d2, d3, _, w4.alloc, r2.mono (g3.trans g4), r4, h4, fun d v H5 hd s r => ?_⟩
      obtain ⟨w5, g5⟩ := w4.grow s
      exact k d ρ3 z3 v H5 O4 hd (g1.trans (g2.trans (g3.trans (g4.trans g5)))) w5 r
  | _ => exact hd.elim
theorem de_chain {op op' : CmpOp} {f g : Op2} {c : Expr} {ta tb tc : DX D} (ho : OpR X (compareOp op) (OpU X.K f)) (ho' : OpR X (compareOp op') (OpU X.K g)) (ha : DP X W a ta) (hb : DP X W b tb) (hc : DP X W c tc)
    (hm : lastMarks [op, op'] [b, c] = false := by with_unfolding_all rfl) : DE X W (.Compare a [op, op'] [b, c] pos) (dChain f g ta tb tc) := pe_to (pe_chain ho ho' ha hb hc hm) fun _ _ _ h => h.chain
theorem dt_chain {op op' : CmpOp} {f g : Op2} {c : Expr} {ta tb tc : DX D} (ho : OpR X (compareOp op) (OpU X.K f)) (ho' : OpR X (compareOp op') (OpU X.K g)) (ha : DP X W a ta) (hb : DP X W b tb) (hc : DP X W c tc)
    (hm : lastMarks [op, op'] [b, c] = false := by with_unfolding_all rfl) : DT X W (.Compare a [op, op'] [b, c] pos) (dTest (dChain f g ta tb tc)) := pt_to (pt_chain ho ho' ha hb hc hm) fun _ _ _ h => h.test.chain

/-! ### truth, and, or, not -/
def tru : D → (Bool → Prop) → Prop
  | .non, k => k false
  | .bl b, k => k b
  | .int i, k => k (i != 0)
  | .str z, k => z.length ≤ sizeLine ∧ k ((z.length : Int) != 0)
  | .lst ds, k => k (!ds.isEmpty)
  | .rol ds, k => k (!ds.isEmpty)
  | .tup ds, k => k (!ds.isEmpty)
  | _, _ => False
theorem isEmpty_reps {K : PySem.W.Frag} {N : Addr → Prop} {H : Hp} {ds : List D} {vs : List V} (r : Reps K N H ds vs) : ds.isEmpty = vs.isEmpty := by
  have := r.length
  cases ds <;> cases vs <;> first | rfl | (simp at this)
theorem tru_ok {K : PySem.W.Frag} {N : Addr → Prop} {z : Z} {H : Hp} {d : D} {v : V} (r : RepP K N z H d v) {R : Bool → Prop} (h : tru d R) : ∃ k, TruV K v H k ∧ R k := by
  cases d with
  | non => rw [r.non]; exact ⟨_, rfl, h⟩
  | bl b => rw [r.bl]; exact ⟨_, rfl, h⟩
  | int i => rw [r.int]; exact ⟨_, rfl, h⟩
  | str s => rw [r.str]; exact ⟨_, ⟨h.1, rfl⟩, h.2⟩
  | lst ds => obtain ⟨a, vs, rfl, h1, h2⟩ := r.lst; exact ⟨_, .inl ⟨vs, SqL.of h1, rfl⟩, by rw [← isEmpty_reps h2]; exact h⟩
  | rol ds => obtain ⟨a, vs, rfl, h1, h2⟩ := r.rol; exact ⟨_, .inl ⟨vs, h1, rfl⟩, by rw [← isEmpty_reps h2]; exact h⟩
  | tup ds => obtain ⟨a, vs, rfl, h1, h2⟩ := r.tup; exact ⟨_, .inr (.inl ⟨vs, h1, rfl⟩), by rw [← isEmpty_reps h2]; exact h⟩
  | _ => exact h.elim
def dTru (t : DX D) : DX Bool := fun ρ z R RX => t ρ z (fun d ρ' z' => tru d fun b => R b ρ' z') RX
theorem dt_val {t : DX D} (h : DE X W e t) (he : ∀ whole, isTrue e X.env whole = (do let v ← whole; standAt e.pos; holding [v] (truthy v)) := by intro _; rfl) : DT X W e (dTest t) := pt_to (pt_val h he) fun _ _ _ h => h.test
theorem dt_truth {t : DX D} (ha : DP X W a t) (he : ∀ whole, isTrue a X.env whole = (do let v ← whole; standAt a.pos; holding [v] (truthy v)) := by intro _; rfl) : DT X W a (dTru t) := pt_to (pt_truth ha he) fun σ H Q ⟨M, ρ, z, O, R, RX, w, h, x, k⟩ =>
  ⟨M, ρ, z, O, _, RX, w, h, x, fun d ρ' z' v H' O' hd g w' r => let ⟨b, h1, h2⟩ := tru_ok r hd; ⟨b, h1, k b ρ' z' b H' O' h2 g w' rfl⟩⟩
def dAndB (t u : DX Bool) : DX Bool := fun ρ z R RX => t ρ z (fun b ρ1 z1 => if b = true then u ρ1 z1 R RX else R false ρ1 z1) RX
def dOrB (t u : DX Bool) : DX Bool := fun ρ z R RX => t ρ z (fun b ρ1 z1 => if b = true then R true ρ1 z1 else u ρ1 z1 R RX) RX
def dNotB (t : DX Bool) : DX Bool := fun ρ z R RX => t ρ z (fun b ρ1 z1 => R (!b) ρ1 z1) RX
theorem dw_and1 {t : DX Bool} (h : DT X W a t) : DWt X W (.BoolOp .And [a] pos) t := pw_and1 h
theorem dw_or1 {t : DX Bool} (h : DT X W a t) : DWt X W (.BoolOp .Or [a] pos) t := pw_or1 h
theorem dw_and {t u : DX Bool} (ha : DT X W a t) (hb : DWt X W (.BoolOp .And (b :: es) pos) u) : DWt X W (.BoolOp .And (a :: b :: es) pos) (dAndB t u) := pw_to (pw_and ha hb) fun σ H Q ⟨M, ρ, z, O, R, RX, w, h, x, k⟩ =>
  ⟨M, ρ, z, O, _, RX, w, h, x, fun c ρ' z' c' H' O' hd g w' r => by
    obtain rfl : c' = c := r
    cases c' with
    | true =>
      rw [if_pos rfl] at hd ⊢
      exact ⟨M, ρ', z', O', R, RX, w', hd, x.after g.toGo, fun d ρ2 z2 v H2 O2 h2 g2 w2 r2 => k d ρ2 z2 v H2 O2 h2 (g.trans g2) w2 r2⟩
    | false =>
      rw [if_neg Bool.false_ne_true] at hd ⊢
      exact k _ ρ' z' _ H' O' hd g w' rfl⟩
theorem dw_or {t u : DX Bool} (ha : DT X W a t) (hb : DWt X W (.BoolOp .Or (b :: es) pos) u) : DWt X W (.BoolOp .Or (a :: b :: es) pos) (dOrB t u) := pw_to (pw_or ha hb) fun σ H Q ⟨M, ρ, z, O, R, RX, w, h, x, k⟩ =>
  ⟨M, ρ, z, O, _, RX, w, h, x, fun c ρ' z' c' H' O' hd g w' r => by
    obtain rfl : c' = c := r
    cases c' with
    | true =>
      rw [if_pos rfl] at hd ⊢
      exact k _ ρ' z' _ H' O' hd g w' rfl
    | false =>
      rw [if_neg Bool.false_ne_true] at hd ⊢
      exact ⟨M, ρ', z', O', R, RX, w', hd, x.after g.toGo, fun d ρ2 z2 v H2 O2 h2 g2 w2 r2 => k d ρ2 z2 v H2 O2 h2 (g.trans g2) w2 r2⟩⟩
theorem DWt.pt {t : DX Bool} (h : DWt X W e t) : DT X W e t := PW.pt h
theorem dt_not {t : DX Bool} (h : DT X W a t) : DT X W (.UnaryOp .Not a pos) (dNotB t) := pt_to (pt_not h) fun σ H Q ⟨M, ρ, z, O, R, RX, w, h, x, k⟩ =>
  ⟨M, ρ, z, O, _, RX, w, h, x, fun c ρ' z' c' H' O' hd g w' r => k _ ρ' z' _ H' O' hd g w' (congrArg (!·) r)⟩
/-- and, or as values: by truth -/
def dAnd (t u : DX D) : DX D := fun ρ z R RX => t ρ z (fun d ρ1 z1 => tru d fun b => if b = true then u ρ1 z1 R RX else R d ρ1 z1) RX
def dOr (t u : DX D) : DX D := fun ρ z R RX => t ρ z (fun d ρ1 z1 => tru d fun b => if b = true then R d ρ1 z1 else u ρ1 z1 R RX) RX
def dNot (t : DX D) : DX D := fun ρ z R RX => t ρ z (fun d ρ1 z1 => tru d fun b => R (.bl (!b)) ρ1 z1) RX
theorem de_one {op} {t : DX D} (h : DE X W a t) : DE X W (.BoolOp op [a] pos) t := pe_one h
theorem de_and {t u : DX D} (ha : DE X W a t) (hb : DE X W (.BoolOp .And (b :: es) pos) u) : DE X W (.BoolOp .And (a :: b :: es) pos) (dAnd t u) := pe_to (pe_andT ha hb) fun σ H Q ⟨M, ρ, z, O, R, RX, w, h, x, k⟩ =>
  ⟨M, ρ, z, O, _, RX, w, h, x, fun d ρ' z' v H' O' hd g w' r => by
    obtain ⟨c, h1, h2⟩ := tru_ok (z := z') (.inl r) hd
    refine ⟨c, h1, ?_⟩
    cases c with
    | true =>
      rw [if_pos rfl] at h2 ⊢
      exact ⟨M, ρ', z', O', R, RX, w', h2, x.after g.toGo, fun d ρ2 z2 v H2 O2 h2 g2 w2 r2 => k d ρ2 z2 v H2 O2 h2 (g.trans g2) w2 r2⟩
    | false =>
      rw [if_neg Bool.false_ne_true] at h2 ⊢
      exact k _ ρ' z' _ H' O' h2 g w' r⟩
theorem de_or {t u : DX D} (ha : DE X W a t) (hb : DE X W (.BoolOp .Or (b :: es) pos) u) : DE X W (.BoolOp .Or (a :: b :: es) pos) (dOr t u) := pe_to (pe_orT ha hb) fun σ H Q ⟨M, ρ, z, O, R, RX, w, h, x, k⟩ =>
  ⟨M, ρ, z, O, _, RX, w, h, x, fun d ρ' z' v H' O' hd g w' r => by
    obtain ⟨c, h1, h2⟩ := tru_ok (z := z') (.inl r) hd
    refine ⟨c, h1, ?_⟩
    cases c with
    | true =>
      rw [if_pos rfl] at h2 ⊢
      exact k _ ρ' z' _ H' O' h2 g w' r
    | false =>
      rw [if_neg Bool.false_ne_true] at h2 ⊢
      exact ⟨M, ρ', z', O', R, RX, w', h2, x.after g.toGo, fun d ρ2 z2 v H2 O2 h2 g2 w2 r2 => k d ρ2 z2 v H2 O2 h2 (g.trans g2) w2 r2⟩⟩
theorem de_not {t : DX D} (ha : DP X W a t) : DE X W (.UnaryOp .Not a pos) (dNot t) := pe_to (pe_notT ha) fun σ H Q ⟨M, ρ, z, O, R, RX, w, h, x, k⟩ =>
  ⟨M, ρ, z, O, _, RX, w, h, x, fun d ρ' z' v H' O' hd g w' r => let ⟨c, h1, h2⟩ := tru_ok r hd; ⟨c, h1, k _ ρ' z' _ H' O' h2 g w' (by unfold relE; rw [Rep])⟩⟩
def dIfE {α : Type} (c : DX Bool) (t u : DX α) : DX α := fun ρ z R RX => c ρ z (fun b ρ1 z1 => if b = true then t ρ1 z1 R RX else u ρ1 z1 R RX) RX
theorem de_ifExp {c : Expr} {tc : DX Bool} {t u : DX D} (hc : DT X W c tc) (ha : DE X W a t) (hb : DE X W b u) : DE X W (.IfExp c a b pos) (dIfE tc t u) := pe_to (pe_ifExp hc ha hb) fun σ H Q ⟨M, ρ, z, O, R, RX, w, h, x, k⟩ =>
  ⟨M, ρ, z, O, _, RX, w, h, x, fun c ρ' z' c' H' O' hd g w' r => by
    obtain rfl : c' = c := r
    cases c' with
    | true =>
      rw [if_pos rfl] at hd ⊢
      exact ⟨M, ρ', z', O', R, RX, w', hd, x.after g.toGo, fun d ρ2 z2 v H2 O2 h2 g2 w2 r2 => k d ρ2 z2 v H2 O2 h2 (g.trans g2) w2 r2⟩
    | false =>
      rw [if_neg Bool.false_ne_true] at hd ⊢
      exact ⟨M, ρ', z', O', R, RX, w', hd, x.after g.toGo, fun d ρ2 z2 v H2 O2 h2 g2 w2 r2 => k d ρ2 z2 v H2 O2 h2 (g.trans g2) w2 r2⟩⟩
/-- what is known in the middle -/
def dCutE {α : Type} (t : DX α) : DX α := fun ρ z R RX => ∃ S : α → List Sl → Z → Prop, t ρ z S RX ∧ ∀ d ρ' z', S d ρ' z' → R d ρ' z'
theorem UG.cut {α β : Type} {K : PySem.W.Frag} {rel : (Addr → Prop) → Z → Hp → α → β → Prop} {t : DX α} {σ : L2.St} {H : Hp} {Q : β → Hp → Prop} (h : UG K W rel (dCutE t) σ H Q) : UG K W rel t σ H Q :=
  let ⟨M, ρ, z, O, R, RX, w, ⟨S, h, i⟩, x, k⟩ := h
  ⟨M, ρ, z, O, S, RX, w, h, x, fun d ρ' z' v H' O' hd => k d ρ' z' v H' O' (i d ρ' z' hd)⟩
theorem de_cut {t : DX D} (h : DE X W e t) : DE X W e (dCutE t) := pe_to h fun _ _ _ h => h.cut

/-! ### arguments -/
def dNil : DX (List D) := fun ρ z R RX => R [] ρ z
def dCons (t : DX D) (u : DX (List D)) : DX (List D) := fun ρ z R RX => t ρ z (fun d ρ1 z1 => u ρ1 z1 (fun ds ρ2 z2 => R (d :: ds) ρ2 z2) RX) RX
theorem da_nil : DA X W [] dNil := pa_to pa_nil fun σ H Q ⟨M, ρ, z, O, R, RX, w, h, x, k⟩ => k [] ρ z [] H O h .refl w RepPs.nil
theorem das_nil : DAs X W [] dNil := pa_to pa_nil fun σ H Q ⟨M, ρ, z, O, R, RX, w, h, x, k⟩ => k [] ρ z [] H O h .refl w Reps.nil
theorem dk_nil : DKw X W [] dNil := pk_to pk_nil fun σ H Q ⟨M, ρ, z, O, R, RX, w, h, x, k⟩ => k [] ρ z [] H O h .refl w Reps.nil
theorem UG.consP {K : PySem.W.Frag} {t : DX D} {u : DX (List D)} {σ : L2.St} {H : Hp} {Q : List V → Hp → Prop} (h : UG K W (RepPs K) (dCons t u) σ H Q) : tCons (UG K W (RepP K) t) (UG K W (RepPs K) u) σ H Q :=
  let ⟨M, ρ, z, O, R, RX, w, h, x, k⟩ := h
  ⟨M, ρ, z, O, _, RX, w, h, x, fun d ρ1 z1 v H1 O1 h1 g1 w1 r1 => ⟨M, ρ1, z1, O1, _, RX, w1, h1, x.after g1.toGo, fun ds ρ2 z2 vs H2 O2 h2 g2 w2 r2 => k _ ρ2 z2 _ H2 O2 h2 (g1.trans g2) w2 (.cons (r1.mono g2) r2)⟩⟩
theorem UG.consS {K : PySem.W.Frag} {t : DX D} {u : DX (List D)} {σ : L2.St} {H : Hp} {Q : List V → Hp → Prop} (h : UG K W (relEs K) (dCons t u) σ H Q) : tCons (UG K W (relE K) t) (UG K W (relEs K) u) σ H Q :=
  let ⟨M, ρ, z, O, R, RX, w, h, x, k⟩ := h
  ⟨M, ρ, z, O, _, RX, w, h, x, fun d ρ1 z1 v H1 O1 h1 g1 w1 r1 => ⟨M, ρ1, z1, O1, _, RX, w1, h1, x.after g1.toGo, fun ds ρ2 z2 vs H2 O2 h2 g2 w2 r2 => k _ ρ2 z2 _ H2 O2 h2 (g1.trans g2) w2 (Reps.cons (Rep.mono g2.ext _ _ r1) r2)⟩⟩
theorem da_cons {t : DX D} {u : DX (List D)} (ha : DP X W e t) (hr : DA X W es u) (hs : starEach (e :: es) X.env = (false, eval e X.env) :: starEach es X.env := by rfl) : DA X W (e :: es) (dCons t u) := pa_to (pa_cons ha hr hs) fun _ _ _ h => h.consP
theorem das_cons {t : DX D} {u : DX (List D)} (ha : DE X W e t) (hr : DAs X W es u) (hs : starEach (e :: es) X.env = (false, eval e X.env) :: starEach es X.env := by rfl) : DAs X W (e :: es) (dCons t u) := pa_to (pa_cons ha hr hs) fun _ _ _ h => h.consS
theorem dk_cons {nm : Option Str} {kpos : Pos} {kws : List Keyword} {t : DX D} {u : DX (List D)} (ha : DE X W e t) (hr : DKw X W kws u) : DKw X W (⟨nm, e, kpos⟩ :: kws) (dCons t u) := pk_to (pk_cons ha hr) fun _ _ _ h => h.consS

/-! ### displays -/
def dTup (t : DX (List D)) : DX D := fun ρ z R RX => t ρ z (fun ds ρ' z' => ds.length ≤ sizeLine ∧ R (.tup ds) ρ' z') RX
def dLst (t : DX (List D)) : DX D := fun ρ z R RX => t ρ z (fun ds ρ' z' => ds.length ≤ sizeLine ∧ R (.lst ds) ρ' z') RX
theorem de_tup {x1} {t : DX (List D)} (h : DAs X W es t) : DE X W (.Tuple es x1 pos) (dTup t) := pe_to (pe_tupN h) fun σ H Q ⟨M, ρ, z, O, R, RX, w, h, x, k⟩ =>
  ⟨M, ρ, z, O, _, RX, w, h, x, fun ds ρ1 z1 vs H1 O1 ⟨hl, h1⟩ g1 w1 r1 => ⟨by rw [← r1.length]; exact hl, fun p H' hp s e => k _ ρ1 z1 _ H' O1 h1 (g1.trans (w1.grow s).2) (w1.grow s).1 (Rep.tupNew w1.alloc hp s e r1)⟩⟩
/-- a list that is new: nothing else leans on it -/
def UN (K : PySem.W.Frag) (W : WX) (t : DX (List D)) : TE := fun σ H Q => ∃ M ρ z O R RX, Wd K M H σ ρ z O ∧ t ρ z R RX ∧ XOk K M W H z O RX ∧
  ∀ ds ρ' z' p vs H1 H' O', R ds ρ' z' → GoE M H z O H1 z' O' → Wd K M H1 σ ρ' z' O' → Same H1 H' → H1 p = none → H' p = some (.lst vs) → Reps K (NN M z' O') H1 ds vs → Q (.ref p) H'
def DN (X : Cx) (W : WX) (e : Expr) (t : DX (List D)) : Prop := PE X e (UN X.K W t)
def dLet (t : DX (List D)) : DX D := fun ρ z R RX => t ρ z (fun ds ρ' z' => R (.lst ds) ρ' z') RX
theorem de_new {t : DX (List D)} (h : DN X W e t) : DE X W e (dLet t) := pe_to h fun σ H Q ⟨M, ρ, z, O, R, RX, w, h, x, k⟩ =>
  ⟨M, ρ, z, O, _, RX, w, h, x, fun ds ρ1 z1 p vs H1 H' O1 h1 g1 w1 s hp e r => k _ ρ1 z1 _ H' O1 h1 (g1.trans (w1.grow s).2) (w1.grow s).1 (Rep.lstNew w1.alloc hp s e r)⟩
def dSized (t : DX (List D)) : DX (List D) := fun ρ z R RX => t ρ z (fun ds ρ' z' => ds.length ≤ sizeLine ∧ R ds ρ' z') RX
theorem dn_lst {t : DX (List D)} (h : DAs X W es t) : DN X W (.List es pos) (dSized t) := pe_to (pe_lstN h) fun σ H Q ⟨M, ρ, z, O, R, RX, w, h, x, k⟩ =>
  ⟨M, ρ, z, O, _, RX, w, h, x, fun ds ρ1 z1 vs H1 O1 ⟨hl, h1⟩ g1 w1 r1 => ⟨by rw [← r1.length]; exact hl, fun p H' hp s e => k _ ρ1 z1 p vs H1 H' O1 h1 g1 w1 s hp e r1⟩⟩
end
end Lay

set_option Elab.async false
set_option linter.all false
set_option maxRecDepth 100000
set_option maxHeartbeats 2000000
namespace Lay
open PySem PySem.Spec PyProof.Rows L2
section
variable {K : PySem.W.Frag} {N : Addr → Prop} {H : Hp}
theorem Rep.i {i : Int} : Rep K N H (.int i) (.int i) := by rw [Rep]
theorem Rep.s {i : Str} : Rep K N H (.str i) (.str i) := by rw [Rep]
theorem Rep.b {i : Bool} : Rep K N H (.bl i) (.bl i) := by rw [Rep]
theorem Rep.n : Rep K N H .non .non := by rw [Rep]
theorem Rep.a {a : Addr} : Rep K N H (.adr a) (.ref a) := by rw [Rep]
theorem RepP.tupR {z : Z} {ds : List D} {v : V} (h : RepP K N z H (.tup ds) v) : Rep K N H (.tup ds) v := by
  rcases h with h | ⟨a, ds, vs, h1, _⟩ | ⟨a, C, dx, ns, ds, vs, h1, _⟩
  · exact h
  · cases h1
  · cases h1
theorem same0 : Same H H := fun _ _ e => e
end
section
variable {X : Cx} {W : WX} {e a b : Expr} {es : List Expr} {pos : Pos}
def addD : Op2
  | .int i, .int j, k => k (.int (i + j))
  | .str i, .str j, k => i.length + j.length ≤ sizeLine ∧ k (.str (i ++ j))
  | .lst xs, .lst ys, k => xs.length + ys.length ≤ sizeLine ∧ k (.lst (xs ++ ys))
  | .tup xs, .tup ys, k => xs.length + ys.length ≤ sizeLine ∧ k (.tup (xs ++ ys))
  | _, _, _ => False
theorem od_add : OpR X (binaryOp .Add) (OpU X.K addD) := by
  rintro pins s σ H x y v u Q I rx ry ⟨N, z, d1, d2, R, al, r1, r2, h, k⟩
  unfold addD at h
  split at h
  · obtain rfl := r1.int; obtain rfl := r2.int
    exact op_add pins s σ H _ _ v u Q I rx ry ⟨_, _, rfl, rfl, k _ _ H h same0 .i⟩
  · obtain rfl := r1.str; obtain rfl := r2.str
    exact op_add_str pins s σ H _ _ v u Q I rx ry ⟨_, _, rfl, rfl, h.1, k _ _ H h.2 same0 .s⟩
  · obtain ⟨a, vs, rfl, h1, q1⟩ := r1.lst
    obtain ⟨b, ws, rfl, h2, q2⟩ := r2.lst
    exact op_catN pins s σ H _ _ v u Q I rx ry ⟨a, b, vs, ws, rfl, rfl, h1, h2, by rw [← q1.length, ← q2.length]; exact h.1, fun p H' hp s e => k _ _ H' h.2 s (Rep.lstNew al hp s e (q1.append q2))⟩
  · rename_i xs ys
    have t1 := r1.tupR
    have t2 := r2.tupR
    obtain ⟨a, vs, rfl, h1, q1⟩ := r1.tup
    obtain ⟨b, ws, rfl, h2, q2⟩ := r2.tup
    refine op_catA pins s σ H _ _ v u Q I rx ry ⟨a, b, vs, ws, rfl, rfl, h1, h2, by rw [← q1.length, ← q2.length]; exact h.1, fun e => ?_, fun _ e => ?_, fun _ _ p hp => k _ _ _ h.2 (same_new hp) (Rep.tupNew al hp (same_new hp) upd_same (q1.append q2))⟩
    · have l := q1.length
      rw [e] at l
      have : xs = [] := List.eq_nil_of_length_eq_zero (by simpa using l)
      subst this
      exact k _ _ H h.2 same0 t2
    · have l := q2.length
      rw [e] at l
      have : ys = [] := List.eq_nil_of_length_eq_zero (by simpa using l)
      subst this
      refine k _ _ H h.2 same0 ?_
      rw [List.append_nil]
      exact t1
  · exact h.elim
def subD : Op2
  | .int i, .int j, k => k (.int (i - j))
  | _, _, _ => False
theorem od_sub : OpR X (binaryOp .Sub) (OpU X.K subD) := by
  rintro pins s σ H x y v u Q I rx ry ⟨N, z, d1, d2, R, al, r1, r2, h, k⟩
  unfold subD at h
  split at h
  · obtain rfl := r1.int; obtain rfl := r2.int
    exact op_sub pins s σ H _ _ v u Q I rx ry ⟨_, _, rfl, rfl, k _ _ H h same0 .i⟩
  · exact h.elim
def mulD : Op2
  | .int i, .int j, k => CMulW i j ∧ k (.int (i * j))
  | .lst xs, .int j, k => -(2 ^ 63) ≤ j ∧ j < 2 ^ 63 ∧ xs.length * j.toNat ≤ sizeLine ∧ k (.lst (List.replicate j.toNat xs).flatten)
  | .str i, .int j, k => MulOk i j ∧ k (.str (Txt.mul i j))
  | _, _, _ => False
theorem Reps.rep {K : PySem.W.Frag} {N : Addr → Prop} {H : Hp} {ds : List D} {vs : List V} (r : Reps K N H ds vs) : ∀ n : Nat, Reps K N H (List.replicate n ds).flatten (List.replicate n vs).flatten
  | 0 => .nil
  | n + 1 => by
    rw [List.replicate_succ, List.replicate_succ, List.flatten_cons, List.flatten_cons]
    exact r.append (Reps.rep r n)
theorem od_mul : OpR X (binaryOp .Mult) (OpU X.K mulD) := by
  rintro pins s σ H x y v u Q I rx ry ⟨N, z, d1, d2, R, al, r1, r2, h, k⟩
  unfold mulD at h
  split at h
  · obtain rfl := r1.int; obtain rfl := r2.int
    exact op_mulW pins s σ H _ _ v u Q I rx ry ⟨_, _, rfl, rfl, h.1, k _ _ H h.2 same0 .i⟩
  · obtain ⟨a, vs, rfl, h1, q1⟩ := r1.lst
    obtain rfl := r2.int
    exact op_repN pins s σ H _ _ v u Q I rx ry ⟨a, _, vs, rfl, rfl, h1, h.1, h.2.1, by rw [← q1.length]; exact h.2.2.1, fun p H' hp s e => k _ _ H' h.2.2.2 s (Rep.lstNew al hp s e (q1.rep _))⟩
  · obtain rfl := r1.str; obtain rfl := r2.int
    exact op_rep_str pins s σ H _ _ v u Q I rx ry ⟨_, _, rfl, rfl, h.1, k _ _ H h.2 same0 .s⟩
  · exact h.elim
/-- the divisor above 0, or below -/
def fdivD : Op2
  | .int i, .int j, k => j.natAbs.log2 < 9000 ∧ if 0 < j then k (.int (i / j)) else j ≠ 0 ∧ k (.int (i.fdiv j))
  | _, _, _ => False
theorem od_fdiv : OpR X (binaryOp .FloorDiv) (OpU X.K fdivD) := by
  rintro pins s σ H x y v u Q I rx ry ⟨N, z, d1, d2, R, al, r1, r2, h, k⟩
  unfold fdivD at h
  split at h
  · obtain rfl := r1.int; obtain rfl := r2.int
    rename_i i j
    by_cases hj : 0 < j
    · rw [if_pos hj] at h
      exact op_fdivW pins s σ H _ _ v u Q I rx ry ⟨_, _, rfl, rfl, ⟨hj, h.1⟩, k _ _ H h.2 same0 .i⟩
    · rw [if_neg hj] at h
      exact op_fdivA pins s σ H _ _ v u Q I rx ry ⟨_, _, rfl, rfl, ⟨h.2.1, h.1⟩, k _ _ H h.2.2 same0 .i⟩
  · exact h.elim
def modD : Op2
  | .int i, .int j, k => 0 < j ∧ k (.int (i % j))
  | _, _, _ => False
theorem od_mod : OpR X (binaryOp .Mod) (OpU X.K modD) := by
  rintro pins s σ H x y v u Q I rx ry ⟨N, z, d1, d2, R, al, r1, r2, h, k⟩
  unfold modD at h
  split at h
  · obtain rfl := r1.int; obtain rfl := r2.int
    exact op_mod pins s σ H _ _ v u Q I rx ry ⟨_, _, rfl, rfl, h.1, k _ _ H h.2 same0 .i⟩
  · exact h.elim
def powD : Op2
  | .int i, .int j, k => CPow i j ∧ k (.int (i ^ j.toNat))
  | _, _, _ => False
theorem od_pow : OpR X (binaryOp .Pow) (OpU X.K powD) := by
  rintro pins s σ H x y v u Q I rx ry ⟨N, z, d1, d2, R, al, r1, r2, h, k⟩
  unfold powD at h
  split at h
  · obtain rfl := r1.int; obtain rfl := r2.int
    exact op_pow pins s σ H _ _ v u Q I rx ry ⟨_, _, rfl, rfl, h.1, k _ _ H h.2 same0 .i⟩
  · exact h.elim
/-! ### comparisons -/
def cmpD (f : Int → Int → Bool) (g : List Nat → List Nat → Bool) : Op2
  | .int i, .int j, k => k (.bl (f i j))
  | .str i, .str j, k => k (.bl (g i.cps.toList j.cps.toList))
  | _, _, _ => False
abbrev ltD : Op2 := cmpD (fun i j => decide (i < j)) (fun i j => decide (i < j))
abbrev leD : Op2 := cmpD (fun i j => decide (i ≤ j)) (fun i j => !decide (j < i))
abbrev gtD : Op2 := cmpD (fun i j => decide (j < i)) (fun i j => decide (j < i))
abbrev geD : Op2 := cmpD (fun i j => decide (j ≤ i)) (fun i j => !decide (i < j))
theorem od_cmp {op : CmpOp} {f : Int → Int → Bool} {g : List Nat → List Nat → Bool} (h1 : OpR X (compareOp op) (rI0 fun i j => .bl (f i j)))
    (h2 : OpR X (compareOp op) (fun x y H Q => ∃ i j, x = .str i ∧ y = .str j ∧ Q (.bl (g i.cps.toList j.cps.toList)) H)) : OpR X (compareOp op) (OpU X.K (cmpD f g)) := by
  rintro pins s σ H x y v u Q I rx ry ⟨N, z, d1, d2, R, al, r1, r2, h, k⟩
  unfold cmpD at h
  split at h
  · obtain rfl := r1.int; obtain rfl := r2.int
    exact h1 pins s σ H _ _ v u Q I rx ry ⟨_, _, rfl, rfl, k _ _ H h same0 .b⟩
  · obtain rfl := r1.str; obtain rfl := r2.str
    exact h2 pins s σ H _ _ v u Q I rx ry ⟨_, _, rfl, rfl, k _ _ H h same0 .b⟩
  · exact h.elim
theorem od_lt : OpR X (compareOp .Lt) (OpU X.K ltD) := od_cmp op_lt op_lt_str
theorem od_le : OpR X (compareOp .LtE) (OpU X.K leD) := od_cmp op_le op_le_str
theorem od_gt : OpR X (compareOp .Gt) (OpU X.K gtD) := od_cmp op_gt op_gt_str
theorem od_ge : OpR X (compareOp .GtE) (OpU X.K geD) := od_cmp op_ge op_ge_str
/-! ### as data -/
mutual
def dat : D → Option PyData
  | .non => some .none
  | .bl b => some (.bool b)
  | .int i => some (.int i)
  | .str z => some (.str z)
  | .tup ds => (dats ds).map .tuple
  | .lst ds => (dats ds).map .list
  | .rol ds => (dats ds).map .list
  | _ => none
def dats : List D → Option (List PyData)
  | [] => some []
  | d :: ds => (dat d).bind fun p => (dats ds).map (p :: ·)
end
mutual
theorem dat_ok {K : PySem.W.Frag} {N : Addr → Prop} {H : Hp} : ∀ (d : D) (v : V) (p : PyData), Rep K N H d v → dat d = some p → Dp K H v p
  | .non, v, p, r, e => by rw [Rep] at r; rw [dat] at e; cases e; subst r; exact .non
  | .bl b, v, p, r, e => by rw [Rep] at r; rw [dat] at e; cases e; subst r; exact .bl b
  | .int b, v, p, r, e => by rw [Rep] at r; rw [dat] at e; cases e; subst r; exact .int b
  | .str b, v, p, r, e => by rw [Rep] at r; rw [dat] at e; cases e; subst r; exact .str b
  | .tup ds, v, p, r, e => by
    obtain ⟨a, vs, rfl, h1, h2⟩ := RepP.tup (z := ⟨none, 0⟩) (.inl r)
    rw [dat] at e
    obtain ⟨ps, e1, rfl⟩ := Option.map_eq_some_iff.mp e
    exact .tup h1 (dats_ok ds vs ps h2 e1)
  | .lst ds, v, p, r, e => by
    obtain ⟨a, vs, rfl, h1, h2⟩ := RepP.lst (z := ⟨none, 0⟩) (.inl r)
    rw [dat] at e
    obtain ⟨ps, e1, rfl⟩ := Option.map_eq_some_iff.mp e
    exact .lst (SqL.of h1) (dats_ok ds vs ps h2 e1)
  | .rol ds, v, p, r, e => by
    obtain ⟨a, vs, rfl, h1, h2⟩ := RepP.rol (z := ⟨none, 0⟩) (.inl r)
    rw [dat] at e
    obtain ⟨ps, e1, rfl⟩ := Option.map_eq_some_iff.mp e
    exact .lst h1 (dats_ok ds vs ps h2 e1)
  | .adr _, v, p, r, e => by simp [dat] at e
  | .ty _, v, p, r, e => by simp [dat] at e
  | .ins _ _ _, v, p, r, e => by simp [dat] at e
theorem dats_ok {K : PySem.W.Frag} {N : Addr → Prop} {H : Hp} : ∀ (ds : List D) (vs : List V) (ps : List PyData), Reps K N H ds vs → dats ds = some ps → DpAll K H vs ps
  | [], vs, ps, r, e => by rw [Reps] at r; rw [dats] at e; cases e; subst r; exact .nil
  | d :: ds, vs, ps, r, e => by
    rw [Reps] at r
    obtain ⟨v, vr, rfl, h1, h2⟩ := r
    rw [dats] at e
    obtain ⟨p, e1, e2⟩ := Option.bind_eq_some_iff.mp e
    obtain ⟨qs, e3, rfl⟩ := Option.map_eq_some_iff.mp e2
    exact .cons (dat_ok d v p h1 e1) (dats_ok ds vr qs h2 e3)
end
theorem datP_ok {K : PySem.W.Frag} {N : Addr → Prop} {z : Z} {H : Hp} {d : D} {v : V} {p : PyData} (r : RepP K N z H d v) (e : dat d = some p) : Dp K H v p := by
  rcases r with r | ⟨a, ds, vs, rfl, rfl, _, h1, h2⟩ | ⟨a, C, dx, ns, ds, vs, rfl, _⟩
  · exact dat_ok d v p r e
  · rw [dat] at e
    obtain ⟨ps, e1, rfl⟩ := Option.map_eq_some_iff.mp e
    exact .lst (SqL.of h1) (dats_ok ds vs ps h2 e1)
  · simp [dat] at e
/-- == of data, by kind -/
def eqD (f : Bool → Bool) : Op2
  | .int i, .int j, k => k (.bl (f (decide (i = j))))
  | .str i, .str j, k => k (.bl (f (decide (i = j))))
  | .bl i, .bl j, k => k (.bl (f (decide (i = j))))
  | .non, .non, k => k (.bl (f true))
  | .non, .int _, k | .non, .str _, k | .non, .bl _, k | .int _, .non, k | .str _, .non, k | .bl _, .non, k | .int _, .str _, k | .str _, .int _, k | .bl _, .str _, k | .str _, .bl _, k => k (.bl (f false))
  | d, e, k => ∃ p q, dat d = some p ∧ dat e = some q ∧ SeqAt.shaped p = true ∧ SeqAt.shaped q = true ∧ k (.bl (f (PyData.eqv p q)))
theorem dec_eq {α β : Type} [DecidableEq α] [DecidableEq β] {f : α → β} (hf : ∀ a b, f a = f b → a = b) (a b : α) : decide (f a = f b) = decide (a = b) := by
  by_cases h : a = b
  · rw [decide_eq_true h, decide_eq_true (by rw [h])]
  · rw [decide_eq_false h, decide_eq_false (fun z => h (hf _ _ z))]
theorem od_eqG {op : CmpOp} {f : Bool → Bool} (h1 : OpR X (compareOp op) (fun x y H Q => scal x y = true ∧ Q (.bl (f (decide (x = y)))) H))
    (h2 : OpR X (compareOp op) (fun x y H Q => ∃ d e, Dp X.K H x d ∧ Dp X.K H y e ∧ SeqAt.shaped d = true ∧ SeqAt.shaped e = true ∧ Q (.bl (f (PyData.eqv d e))) H)) : OpR X (compareOp op) (OpU X.K (eqD f)) := by
  rintro pins s σ H x y v u Q I rx ry ⟨N, z, d1, d2, R, al, r1, r2, h, k⟩
  have scal2 : ∀ b : Bool, scal x y = true → decide (x = y) = b → R (.bl (f b)) → wpAny (model X.prog X.w) X.A (compareOp op v u) (EP X pins σ Q) X.xe s := fun b q1 q2 q3 =>
    h1 pins s σ H x y v u Q I rx ry ⟨q1, by rw [q2]; exact k _ _ H q3 same0 .b⟩
  unfold eqD at h
  split at h
  · obtain rfl := r1.int; obtain rfl := r2.int; exact scal2 _ rfl (dec_eq (fun _ _ e => V.int.inj e) _ _) h
  · obtain rfl := r1.str; obtain rfl := r2.str; exact scal2 _ rfl (dec_eq (fun _ _ e => V.str.inj e) _ _) h
  · obtain rfl := r1.bl; obtain rfl := r2.bl; exact scal2 _ rfl (dec_eq (fun _ _ e => V.bl.inj e) _ _) h
  · obtain rfl := r1.non; obtain rfl := r2.non; exact scal2 _ rfl rfl h
  · obtain rfl := r1.non; obtain rfl := r2.int; exact scal2 _ rfl rfl h
  · obtain rfl := r1.non; obtain rfl := r2.str; exact scal2 _ rfl rfl h
  · obtain rfl := r1.non; obtain rfl := r2.bl; exact scal2 _ rfl rfl h
  · obtain rfl := r1.int; obtain rfl := r2.non; exact scal2 _ rfl rfl h
  · obtain rfl := r1.str; obtain rfl := r2.non; exact scal2 _ rfl rfl h
  · obtain rfl := r1.bl; obtain rfl := r2.non; exact scal2 _ rfl rfl h
  · obtain rfl := r1.int; obtain rfl := r2.str; exact scal2 _ rfl rfl h
  · obtain rfl := r1.str; obtain rfl := r2.int; exact scal2 _ rfl rfl h
  · obtain rfl := r1.bl; obtain rfl := r2.str; exact scal2 _ rfl rfl h
  · obtain rfl := r1.str; obtain rfl := r2.bl; exact scal2 _ rfl rfl h
  · obtain ⟨p, q, e1, e2, e3, e4, h⟩ := h
    exact h2 pins s σ H x y v u Q I rx ry ⟨p, q, datP_ok r1 e1, datP_ok r2 e2, e3, e4, k _ _ H h same0 .b⟩
theorem od_eq (hu : X.A.units + 64 < cLine) : OpR X (compareOp .Eq) (OpU X.K (eqD id)) := od_eqG op_eq (op_eqD hu)
theorem od_ne (hu : X.A.units + 64 < cLine) : OpR X (compareOp .NotEq) (OpU X.K (eqD not)) := od_eqG op_ne (op_neD hu)
def isNonD : D → Bool
  | .non => true
  | _ => false
def isD (f : Bool → Bool) : Op2 := fun d e k => e = .non ∧ k (.bl (f (isNonD d)))
theorem non_iff {K : PySem.W.Frag} {N : Addr → Prop} {z : Z} {H : Hp} {d : D} {v : V} (r : RepP K N z H d v) : decide (v = .non) = isNonD d := by
  cases d with
  | non => rw [r.non]; rfl
  | bl b => rw [r.bl]; rfl
  | int b => rw [r.int]; rfl
  | str b => rw [r.str]; rfl
  | adr b => rw [r.adr]; rfl
  | ty b => rw [r.ty]; rfl
  | tup ds => obtain ⟨a, vs, rfl, _⟩ := r.tup; rfl
  | lst ds => obtain ⟨a, vs, rfl, _⟩ := r.lst; rfl
  | rol ds => obtain ⟨a, vs, rfl, _⟩ := r.rol; rfl
  | ins C ns ds => obtain ⟨a, dx, vs, rfl, _⟩ := r.ins; rfl
  | exn C ns ds => obtain ⟨a, od, vs, rfl, _⟩ := r.exn; rfl
  | dic ks ds => obtain ⟨a, vs, rfl, _⟩ := r.dic; rfl
theorem od_isN : OpR X (compareOp .Is) (OpU X.K (isD id)) := by
  rintro pins s σ H x y v u Q I rx ry ⟨N, z, d1, d2, R, al, r1, r2, ⟨rfl, h⟩, k⟩
  exact op_isN pins s σ H x y v u Q I rx ry ⟨r2.non, by rw [non_iff r1]; exact k _ _ H h same0 .b⟩
theorem od_notN : OpR X (compareOp .IsNot) (OpU X.K (isD not)) := by
  rintro pins s σ H x y v u Q I rx ry ⟨N, z, d1, d2, R, al, r1, r2, ⟨rfl, h⟩, k⟩
  exact op_notN pins s σ H x y v u Q I rx ry ⟨r2.non, by rw [non_iff r1]; exact k _ _ H h same0 .b⟩
/-- in a text; in a list, a tuple of flat things -/
def toV : D → Option V
  | .non => some .non
  | .bl b => some (.bl b)
  | .int i => some (.int i)
  | .str z => some (.str z)
  | _ => none
def toVs : List D → Option (List V)
  | [] => some []
  | d :: ds => (toV d).bind fun v => (toVs ds).map (v :: ·)
theorem toV_ok {K : PySem.W.Frag} {N : Addr → Prop} {z : Z} {H : Hp} {d : D} {v w : V} (r : RepP K N z H d v) (e : toV d = some w) : v = w ∧ flatV w = true := by
  cases d with
  | non => cases e; exact ⟨r.non, rfl⟩
  | bl b => cases e; exact ⟨r.bl, rfl⟩
  | int b => cases e; exact ⟨r.int, rfl⟩
  | str b => cases e; exact ⟨r.str, rfl⟩
  | _ => cases e
theorem toVs_ok {K : PySem.W.Frag} {N : Addr → Prop} {H : Hp} : ∀ {ds : List D} {vs ws : List V}, Reps K N H ds vs → toVs ds = some ws → vs = ws ∧ ws.all flatV = true
  | [], vs, ws, r, e => by rw [Reps] at r; rw [toVs] at e; cases e; exact ⟨r, rfl⟩
  | d :: ds, vs, ws, r, e => by
    rw [Reps] at r
    obtain ⟨v, vr, rfl, h1, h2⟩ := r
    rw [toVs] at e
    obtain ⟨p, e1, e2⟩ := Option.bind_eq_some_iff.mp e
    obtain ⟨qs, e3, rfl⟩ := Option.map_eq_some_iff.mp e2
    obtain ⟨rfl, f1⟩ := toV_ok (z := ⟨none, 0⟩) (.inl h1) e1
    obtain ⟨rfl, f2⟩ := toVs_ok h2 e3
    exact ⟨rfl, by rw [List.all_cons, f1, f2]; rfl⟩
def inD (f : Bool → Bool) : Op2 := fun d e k => match d, e with
  | .str i, .str j => k (.bl (f (!(Builtin.Str.occurrences j i 0 j.length 1).isEmpty)))
  | d, .lst es => ∃ v vs, toV d = some v ∧ toVs es = some vs ∧ k (.bl (f (inV v vs)))
  | d, .tup es => ∃ v vs, toV d = some v ∧ toVs es = some vs ∧ k (.bl (f (inV v vs)))
  | _, _ => False
theorem od_inG {op : CmpOp} {f : Bool → Bool} (h1 : OpR X (compareOp op) (fun x y H Q => ∃ i j, x = .str i ∧ y = .str j ∧ Q (.bl (f (!(Builtin.Str.occurrences j i 0 j.length 1).isEmpty))) H))
    (h2 : OpR X (compareOp op) (fun x y H Q => ∃ p xs, y = .ref p ∧ (SqL X.K H p xs ∨ SqT X.K H p xs) ∧ flatV x = true ∧ xs.all flatV = true ∧ Q (.bl (f (inV x xs))) H)) : OpR X (compareOp op) (OpU X.K (inD f)) := by
  rintro pins s σ H x y v u Q I rx ry ⟨N, z, d1, d2, R, al, r1, r2, h, k⟩
  unfold inD at h
  split at h
  · obtain rfl := r1.str; obtain rfl := r2.str
    exact h1 pins s σ H _ _ v u Q I rx ry ⟨_, _, rfl, rfl, k _ _ H h same0 .b⟩
  · obtain ⟨w, ws, e1, e2, h⟩ := h
    obtain ⟨a, vs, rfl, q1, q2⟩ := r2.lst
    obtain ⟨rfl, f1⟩ := toV_ok r1 e1
    obtain ⟨rfl, f2⟩ := toVs_ok q2 e2
    exact h2 pins s σ H _ _ v u Q I rx ry ⟨a, _, rfl, .inl (SqL.of q1), f1, f2, k _ _ H h same0 .b⟩
  · obtain ⟨w, ws, e1, e2, h⟩ := h
    obtain ⟨a, vs, rfl, q1, q2⟩ := r2.tup
    obtain ⟨rfl, f1⟩ := toV_ok r1 e1
    obtain ⟨rfl, f2⟩ := toVs_ok q2 e2
    exact h2 pins s σ H _ _ v u Q I rx ry ⟨a, _, rfl, .inr q1, f1, f2, k _ _ H h same0 .b⟩
  · exact h.elim
theorem od_in : OpR X (compareOp .In) (OpU X.K (inD id)) := od_inG op_in_str op_in_seq
theorem od_notIn : OpR X (compareOp .NotIn) (OpU X.K (inD not)) := od_inG op_notIn_str op_notIn_seq

/-! ### one operand -/
def dUn (f : D → (D → Prop) → Prop) (t : DX D) : DX D := fun ρ z R RX => t ρ z (fun d ρ' z' => f d fun r => R r ρ' z') RX
def negD : D → (D → Prop) → Prop
  | .int i, k => k (.int (-i))
  | _, _ => False
theorem de_neg {t : DX D} (ha : DP X W a t) : DE X W (.UnaryOp .USub a pos) (dUn negD t) := pe_to (pe_un un_neg ha) fun σ H Q ⟨M, ρ, z, O, R, RX, w, h, x, k⟩ =>
  ⟨M, ρ, z, O, _, RX, w, h, x, fun d ρ' z' v H' O' hd g w' r => by
    cases d with
    | int i => exact ⟨i, r.int, k _ ρ' z' _ H' O' hd g w' .i⟩
    | _ => exact hd.elim⟩
/-! ### places and slices -/
theorem atI_reps {K : PySem.W.Frag} {N : Addr → Prop} {H : Hp} {ds : List D} {vs : List V} {i : Int} {d : D} (r : Reps K N H ds vs) (h : atI ds i = some d) : ∃ v, atI vs i = some v ∧ Rep K N H d v := by
  unfold atI at h ⊢
  rw [r.length] at h
  obtain ⟨j, e1, e2⟩ := Option.bind_eq_some_iff.mp h
  obtain ⟨v, h1, h2⟩ := r.get e2
  exact ⟨v, by rw [e1]; exact h1, h2⟩
def ixD : Op2
  | .lst ds, .int i, k => ∃ d, atI ds i = some d ∧ k d
  | .rol ds, .int i, k => ∃ d, atI ds i = some d ∧ k d
  | .tup ds, .int i, k => ∃ d, atI ds i = some d ∧ k d
  | .str z, .int i, k => z.length ≤ sizeLine ∧ ∃ c, atI z.cps.toList i = some c ∧ k (.str ⟨#[c]⟩)
  | _, _, _ => False
theorem od_ix : IxR X (OpU X.K ixD) := by
  rintro value slice pins s σ H x y v u Q I rx ry ⟨N, z, d1, d2, R, al, r1, r2, h, k⟩ hs
  unfold ixD at h
  split at h
  · obtain ⟨d, e, h⟩ := h
    obtain ⟨a, vs, rfl, q1, q2⟩ := r1.lst
    obtain rfl := r2.int
    obtain ⟨w, e2, r⟩ := atI_reps q2 e
    exact ix_list value slice pins s σ H _ _ v u Q I rx ry ⟨a, vs, _, w, rfl, rfl, SqL.of q1, e2, k _ _ H h same0 r⟩ hs
  · obtain ⟨d, e, h⟩ := h
    obtain ⟨a, vs, rfl, q1, q2⟩ := r1.rol
    obtain rfl := r2.int
    obtain ⟨w, e2, r⟩ := atI_reps q2 e
    exact ix_list value slice pins s σ H _ _ v u Q I rx ry ⟨a, vs, _, w, rfl, rfl, q1, e2, k _ _ H h same0 r⟩ hs
  · obtain ⟨d, e, h⟩ := h
    obtain ⟨a, vs, rfl, q1, q2⟩ := r1.tup
    obtain rfl := r2.int
    obtain ⟨w, e2, r⟩ := atI_reps q2 e
    exact ix_tup value slice pins s σ H _ _ v u Q I rx ry ⟨a, vs, _, w, rfl, rfl, q1, e2, k _ _ H h same0 r⟩ hs
  · obtain ⟨hz, c, e, h⟩ := h
    obtain rfl := r1.str
    obtain rfl := r2.int
    exact ix_str value slice pins s σ H _ _ v u Q I rx ry ⟨_, _, c, rfl, rfl, hz, e, k _ _ H h same0 .s⟩ hs
  · exact h.elim
def cutL {α : Type} (xs : List α) (lo hi : Option Int) : List α := (xs.drop (HT.sIx xs.length 0 lo)).take (HT.sIx xs.length xs.length hi - HT.sIx xs.length 0 lo)
theorem cut_reps {K : PySem.W.Frag} {N : Addr → Prop} {H : Hp} {ds : List D} {vs : List V} {lo hi : Option Int} (r : Reps K N H ds vs) : Reps K N H (cutL ds lo hi) (cutV vs lo hi) := by
  unfold cutL cutV
  rw [r.length]
  exact (r.drop _).take _
def slD : D → Option Int → Option Int → (D → Prop) → Prop
  | .lst ds, lo, hi, k => k (.lst (cutL ds lo hi))
  | .rol ds, lo, hi, k => k (.lst (cutL ds lo hi))
  | .tup ds, lo, hi, k => k (.tup (cutL ds lo hi))
  | .str z, lo, hi, k => z.length ≤ sizeLine ∧ k (.str (cutS z lo hi))
  | _, _, _, _ => False
def SlU (K : PySem.W.Frag) (f : D → Option Int → Option Int → (D → Prop) → Prop) : V → Option Int → Option Int → Hp → VK → Prop := fun x lo hi H Q =>
  ∃ N z d R, (∀ a, N a → H a ≠ none) ∧ RepP K N z H d x ∧ f d lo hi R ∧ ∀ d v H', R d → Same H H' → Rep K N H' d v → Q v H'
theorem sd_sl : L2.SlR X (SlU X.K slD) := by
  rintro pins s σ H x v vl vu lo hi sl Q I rx hs pl pu ⟨N, z, d, R, al, r, h, k⟩
  unfold slD at h
  split at h
  · obtain ⟨a, vs, rfl, q1, q2⟩ := r.lst
    exact sl_listN pins s σ H _ v vl vu lo hi sl Q I rx hs pl pu ⟨a, vs, rfl, SqL.of q1, fun p H' hp s e => k _ _ H' h s (Rep.lstNew al hp s e (cut_reps q2))⟩
  · obtain ⟨a, vs, rfl, q1, q2⟩ := r.rol
    exact sl_listN pins s σ H _ v vl vu lo hi sl Q I rx hs pl pu ⟨a, vs, rfl, q1, fun p H' hp s e => k _ _ H' h s (Rep.lstNew al hp s e (cut_reps q2))⟩
  · rename_i ds
    have t := r.tupR
    obtain ⟨a, vs, rfl, q1, q2⟩ := r.tup
    refine sl_tupA pins s σ H _ v vl vu lo hi sl Q I rx hs pl pu ⟨a, vs, rfl, q1, fun ⟨z1, z2⟩ => k _ _ H h same0 ?_, fun _ p hp => k _ _ _ h (same_new hp) (Rep.tupNew al hp (same_new hp) upd_same (cut_reps q2))⟩
    have e := cut_all z1 z2
    have : cutL ds lo hi = ds := by
      unfold cutL
      rw [q2.length, z1, z2, List.drop_zero, Nat.sub_zero, List.take_of_length_le (by rw [q2.length]; exact Nat.le_refl _)]
    rw [this]
    exact t
  · obtain rfl := r.str
    exact sl_str pins s σ H _ v vl vu lo hi sl Q I rx hs pl pu ⟨_, rfl, h.1, k _ _ H h.2 same0 .s⟩
  · exact h.elim
def DO (X : Cx) (W : WX) (e : Option Expr) (t : DX (Option Int)) : Prop := PO X e (UG X.K W (fun _ _ _ (d o : Option Int) => o = d) t)
theorem po_to {e : Option Expr} {t t' : TO} (h : PO X e t) (i : ∀ σ H Q, t' σ H Q → t σ H Q) : PO X e t' := ⟨fun pins s σ H Q I q => h.run pins s σ H Q I (i σ H Q q)⟩
def dNoPart : DX (Option Int) := fun ρ z R RX => R none ρ z
def dPart (t : DX D) : DX (Option Int) := fun ρ z R RX => t ρ z (fun d ρ' z' => match d with | .int i => R (some i) ρ' z' | _ => False) RX
theorem do_none : DO X W none dNoPart := po_to po_none fun σ H Q ⟨M, ρ, z, O, R, RX, w, h, x, k⟩ => k none ρ z none H O h .refl w rfl
theorem do_some {t : DX D} (h : DE X W e t) : DO X W (some e) (dPart t) := po_to (po_some h) fun σ H Q ⟨M, ρ, z, O, R, RX, w, h, x, k⟩ =>
  ⟨M, ρ, z, O, _, RX, w, h, x, fun d ρ' z' v H' O' hd g w' r => by
    cases d with
    | int i => exact ⟨i, RepP.int (z := z') (.inl r), k _ ρ' z' _ H' O' hd g w' rfl⟩
    | _ => exact hd.elim⟩
def dSl (f : D → Option Int → Option Int → (D → Prop) → Prop) (t : DX D) (tl th : DX (Option Int)) : DX D := fun ρ z R RX => t ρ z (fun d ρ1 z1 => tl ρ1 z1 (fun l ρ2 z2 => th ρ2 z2 (fun u ρ3 z3 => f d l u fun r => R r ρ3 z3) RX) RX) RX
theorem de_slice {f : D → Option Int → Option Int → (D → Prop) → Prop} {t : DX D} {tl th : DX (Option Int)} {lo hi : Option Expr} {p2 : Pos} (hs : L2.SlR X (SlU X.K f)) (he : DP X W e t) (hl : DO X W lo tl) (hu : DO X W hi th) :
    DE X W (.Subscript e (.Slice lo hi none p2) pos) (dSl f t tl th) := pe_to (pe_slice hs he hl hu) fun σ H Q ⟨M, ρ, z, O, R, RX, w, h, x, k⟩ =>
  ⟨M, ρ, z, O, _, RX, w, h, x, fun d ρ1 z1 v1 H1 O1 h1 g1 w1 r1 => ⟨M, ρ1, z1, O1, _, RX, w1, h1, x.after g1.toGo, fun l ρ2 z2 l' H2 O2 h2 g2 w2 r2 =>
    ⟨M, ρ2, z2, O2, _, RX, w2, h2, x.after (g1.trans g2).toGo, fun u ρ3 z3 u' H3 O3 h3 g3 w3 r3 => by
      obtain rfl : l' = l := r2
      obtain rfl : u' = u := r3
      exact ⟨_, z3, d, _, w3.alloc, r1.mono (g2.trans g3), h3, fun d v H' hd s r => k d ρ3 z3 v H' O3 hd (g1.trans (g2.trans (g3.trans (w3.grow s).2))) (w3.grow s).1 r⟩⟩⟩⟩
def revD : D → (D → Prop) → Prop
  | .lst ds, k => k (.lst ds.reverse)
  | .rol ds, k => k (.lst ds.reverse)
  | .tup ds, k => k (.tup ds.reverse)
  | _, _ => False
def tRevA (K : PySem.W.Frag) (te : TE) : TE := fun σ H Q => te σ H fun x H1 => (∃ a xs, x = .ref a ∧ SqL K H1 a xs ∧ ∀ p, H1 p = none → Q (.ref p) (upd H1 p (.lst xs.reverse)))
theorem de_revL {t : DX D} {k : Nat} {p1 p2 p3 : Pos} (he : DP X W e t) : DE X W (.Subscript e (.Slice none none (some (.UnaryOp .USub (.Constant (.int 1) k p1) p2)) p3) pos) (dUn (fun d k => match d with | .lst ds => k (.lst ds.reverse) | .rol ds => k (.lst ds.reverse) | _ => False) t) :=
  pe_to (pe_revL he) fun σ H Q ⟨M, ρ, z, O, R, RX, w, h, x, k⟩ => ⟨M, ρ, z, O, _, RX, w, h, x, fun d ρ' z' v H' O' hd g w' r => by
    cases d with
    | lst ds =>
      obtain ⟨a, vs, rfl, q1, q2⟩ := r.lst
      exact ⟨a, vs, rfl, SqL.of q1, fun p hp => k _ ρ' z' _ _ O' hd (g.trans (w'.grow (same_new hp)).2) (w'.grow (same_new hp)).1 (Rep.lstNew w'.alloc hp (same_new hp) upd_same q2.reverse)⟩
    | rol ds =>
      obtain ⟨a, vs, rfl, q1, q2⟩ := r.rol
      exact ⟨a, vs, rfl, q1, fun p hp => k _ ρ' z' _ _ O' hd (g.trans (w'.grow (same_new hp)).2) (w'.grow (same_new hp)).1 (Rep.lstNew w'.alloc hp (same_new hp) upd_same q2.reverse)⟩
    | _ => exact hd.elim⟩
theorem de_revT {t : DX D} {k : Nat} {p1 p2 p3 : Pos} (he : DP X W e t) : DE X W (.Subscript e (.Slice none none (some (.UnaryOp .USub (.Constant (.int 1) k p1) p2)) p3) pos) (dUn (fun d k => match d with | .tup ds => k (.tup ds.reverse) | _ => False) t) :=
  pe_to (pe_revT he) fun σ H Q ⟨M, ρ, z, O, R, RX, w, h, x, k⟩ => ⟨M, ρ, z, O, _, RX, w, h, x, fun d ρ' z' v H' O' hd g w' r => by
    cases d with
    | tup ds =>
      obtain ⟨a, vs, rfl, q1, q2⟩ := r.tup
      exact ⟨a, vs, rfl, q1, fun p hp => k _ ρ' z' _ _ O' hd (g.trans (w'.grow (same_new hp)).2) (w'.grow (same_new hp)).1 (Rep.tupNew w'.alloc hp (same_new hp) upd_same q2.reverse)⟩
    | _ => exact hd.elim⟩
end
end Lay

set_option Elab.async false
set_option linter.all false
set_option maxRecDepth 100000
set_option maxHeartbeats 2000000
namespace Lay
open PySem PySem.Spec PyProof.Rows L2
section
variable {X : Cx} {W : WX} {e a b : Expr} {es : List Expr} {pos : Pos}
/-! ### built-in functions -/
abbrev FnD := List D → (D → Prop) → Prop
def CallU (K : PySem.W.Frag) (f : FnD) : List V → Hp → VK → Prop := fun xs H Q => ∃ N z ds R, (∀ a, N a → H a ≠ none) ∧ RepPs K N z H ds xs ∧ f ds R ∧ ∀ d v H', R d → Same H H' → Rep K N H' d v → Q v H'
def dFn (f : FnD) (t : DX (List D)) : DX D := fun ρ z R RX => t ρ z (fun ds ρ' z' => f ds fun d => R d ρ' z') RX
theorem UG.fn {K : PySem.W.Frag} {f : FnD} {t : DX (List D)} {σ : L2.St} {H : Hp} {Q : VK} (h : UG K W (relE K) (dFn f t) σ H Q) : UG K W (RepPs K) t σ H fun vs H1 => CallU K f vs H1 Q :=
  let ⟨M, ρ, z, O, R, RX, w, h, x, k⟩ := h
  ⟨M, ρ, z, O, _, RX, w, h, x, fun ds ρ' z' v H' O' hd g w' r => ⟨_, z', ds, _, w'.alloc, r, hd, fun d v H2 hd s r => k d ρ' z' v H2 O' hd (g.trans (w'.grow s).2) (w'.grow s).1 r⟩⟩
theorem de_fn {id : String} {f : FnD} {t : DX (List D)} {x : Str} {p : Pos} (hc : CallR X (.builtin id) (CallU X.K f)) (hg : Gl X x) (hm : X.mg x = none) (hv : bootBuiltins x = some (.builtin id)) (ha : DA X W (e :: es) t)
    (hn : x ≠ "__name__" := by decide) (hdb : (x == ("__debug__" : Str)) = false := by decide) (he : starEach (e :: es) X.env = (false, eval e X.env) :: starEach es X.env := by rfl)
    (hpl : (backTo pos (starEach es X.env)).any (·.1) = false := by rfl) : DE X W (.Call (.Name x p) (e :: es) [] pos) (dFn f t) := pe_to (pe_callB hc hg hm hv ha hn hdb he hpl) fun _ _ _ h => h.fn
theorem de_ty {T : String} {f : FnD} {t : DX (List D)} {x : Str} {p : Pos} (hc : CallR X (.type T) (CallU X.K f)) (hg : Gl X x) (hm : X.mg x = none) (hv : bootBuiltins x = some (.type T)) (ha : DA X W (e :: es) t)
    (hn : x ≠ "__name__" := by decide) (hdb : (x == ("__debug__" : Str)) = false := by decide) (he : starEach (e :: es) X.env = (false, eval e X.env) :: starEach es X.env := by rfl)
    (hpl : (backTo pos (starEach es X.env)).any (·.1) = false := by rfl) : DE X W (.Call (.Name x p) (e :: es) [] pos) (dFn f t) := pe_to (pe_callTy hc hg hm hv ha hn hdb he hpl) fun _ _ _ h => h.fn
def lenD : FnD
  | [.str z], k => z.length ≤ sizeLine ∧ k (.int z.length)
  | [.lst ds], k => k (.int ds.length)
  | [.rol ds], k => k (.int ds.length)
  | [.tup ds], k => k (.int ds.length)
  | _, _ => False
theorem cd_len : CallR X (.builtin "len") (CallU X.K lenD) := by
  rintro pins s σ H xs us Q I r ⟨N, z, ds, R, al, rp, h, k⟩
  unfold lenD at h
  split at h
  · obtain ⟨v, rfl, r1⟩ := rp.one
    obtain rfl := r1.str
    exact call_len_str pins s σ H _ us Q I r ⟨_, rfl, h.1, k _ _ H h.2 same0 .i⟩
  · obtain ⟨v, rfl, r1⟩ := rp.one
    obtain ⟨a, vs, rfl, q1, q2⟩ := r1.lst
    exact call_len_seq pins s σ H _ us Q I r ⟨a, vs, rfl, .inl (SqL.of q1), by rw [← q2.length]; exact k _ _ H h same0 .i⟩
  · obtain ⟨v, rfl, r1⟩ := rp.one
    obtain ⟨a, vs, rfl, q1, q2⟩ := r1.rol
    exact call_len_seq pins s σ H _ us Q I r ⟨a, vs, rfl, .inl q1, by rw [← q2.length]; exact k _ _ H h same0 .i⟩
  · obtain ⟨v, rfl, r1⟩ := rp.one
    obtain ⟨a, vs, rfl, q1, q2⟩ := r1.tup
    exact call_len_seq pins s σ H _ us Q I r ⟨a, vs, rfl, .inr q1, by rw [← q2.length]; exact k _ _ H h same0 .i⟩
  · exact h.elim
def absD : FnD
  | [.int i], k => k (.int (if i < 0 then -i else i))
  | _, _ => False
theorem cd_abs : CallR X (.builtin "abs") (CallU X.K absD) := by
  rintro pins s σ H xs us Q I r ⟨N, z, ds, R, al, rp, h, k⟩
  unfold absD at h
  split at h
  · obtain ⟨v, rfl, r1⟩ := rp.one
    obtain rfl := r1.int
    exact call_abs pins s σ H _ us Q I r ⟨_, rfl, k _ _ H h same0 .i⟩
  · exact h.elim
def mmD (f : Int → Int → Int) : FnD
  | [.int i, .int j], k => k (.int (f i j))
  | _, _ => False
abbrev minD : FnD := mmD fun i j => if j < i then j else i
abbrev maxD : FnD := mmD fun i j => if j > i then j else i
theorem cd_min (hc : X.calm = true) : CallR X (.builtin "min") (CallU X.K minD) := by
  rintro pins s σ H xs us Q I r ⟨N, z, ds, R, al, rp, h, k⟩
  unfold minD mmD at h
  split at h
  · obtain ⟨v, w, rfl, r1, r2⟩ := rp.two
    obtain rfl := r1.int
    obtain rfl := r2.int
    exact call_min2 hc pins s σ H _ us Q I r ⟨_, _, rfl, k _ _ H h same0 .i⟩
  · exact h.elim
theorem cd_max (hc : X.calm = true) : CallR X (.builtin "max") (CallU X.K maxD) := by
  rintro pins s σ H xs us Q I r ⟨N, z, ds, R, al, rp, h, k⟩
  unfold maxD mmD at h
  split at h
  · obtain ⟨v, w, rfl, r1, r2⟩ := rp.two
    obtain rfl := r1.int
    obtain rfl := r2.int
    exact call_max2 hc pins s σ H _ us Q I r ⟨_, _, rfl, k _ _ H h same0 .i⟩
  · exact h.elim
def intD : FnD
  | [.int i], k => k (.int i)
  | [.bl b], k => k (.int (if b then 1 else 0))
  | [.str z], k => ∃ n, PySem.intText? z = some n ∧ z.length ≤ 640 ∧ k (.int n)
  | _, _ => False
theorem cd_int : CallR X (.type "int") (CallU X.K intD) := by
  rintro pins s σ H xs us Q I r ⟨N, z, ds, R, al, rp, h, k⟩
  unfold intD at h
  split at h
  · obtain ⟨v, rfl, r1⟩ := rp.one
    obtain rfl := r1.int
    exact call_int1 pins s σ H _ us Q I r (.inl ⟨_, rfl, k _ _ H h same0 .i⟩)
  · obtain ⟨v, rfl, r1⟩ := rp.one
    obtain rfl := r1.bl
    exact call_int1 pins s σ H _ us Q I r (.inr ⟨_, rfl, k _ _ H h same0 .i⟩)
  · obtain ⟨v, rfl, r1⟩ := rp.one
    obtain rfl := r1.str
    obtain ⟨n, h1, h2, h⟩ := h
    exact call_int_str pins s σ H _ us Q I r ⟨_, n, rfl, h1, h2, k _ _ H h same0 .i⟩
  · exact h.elim
def strD : FnD
  | [.int i], k => i.natAbs.log2 < 1920 ∧ k (.str (toString i))
  | [.str z], k => k (.str z)
  | _, _ => False
theorem cd_str : CallR X (.type "str") (CallU X.K strD) := by
  rintro pins s σ H xs us Q I r ⟨N, z, ds, R, al, rp, h, k⟩
  unfold strD at h
  split at h
  · obtain ⟨v, rfl, r1⟩ := rp.one
    obtain rfl := r1.int
    exact call_str_int pins s σ H _ us Q I r ⟨_, rfl, h.1, k _ _ H h.2 same0 .s⟩
  · obtain ⟨v, rfl, r1⟩ := rp.one
    obtain rfl := r1.str
    exact SkE.call_str_str pins s σ H _ us Q I r ⟨_, rfl, k _ _ H h same0 .s⟩
  · exact h.elim
def reprD : FnD
  | [d], k => ∃ p, dat d = some p ∧ p.showable = true ∧ SeqAt.shaped p = true ∧ p.shown.length ≤ sizeLine ∧ k (.str p.shown)
  | _, _ => False
theorem cd_repr (hg : X.A.guards = some []) (hu : X.A.units + 150 < cLine) : CallR X (.builtin "repr") (CallU X.K reprD) := by
  rintro pins s σ H xs us Q I r ⟨N, z, ds, R, al, rp, h, k⟩
  unfold reprD at h
  split at h
  · obtain ⟨v, rfl, r1⟩ := rp.one
    obtain ⟨p, e, h1, h2, h3, h⟩ := h
    exact call_repr_any hg hu pins s σ H _ us Q I r ⟨v, p, rfl, datP_ok r1 e, h1, h2, h3, k _ _ H h same0 .s⟩
  · exact h.elim
def tupleD : FnD
  | [.lst ds], k => k (.tup ds)
  | [.rol ds], k => k (.tup ds)
  | [.tup ds], k => k (.tup ds)
  | _, _ => False
theorem cd_tuple : CallR X (.type "tuple") (CallU X.K tupleD) := by
  rintro pins s σ H xs us Q I r ⟨N, z, ds, R, al, rp, h, k⟩
  unfold tupleD at h
  split at h
  · obtain ⟨v, rfl, r1⟩ := rp.one
    obtain ⟨a, vs, rfl, q1, q2⟩ := r1.lst
    exact call_tuple_of pins s σ H _ us Q I r ⟨a, vs, rfl, .inl ⟨SqL.of q1, fun p hp => k _ _ _ h (same_new hp) (Rep.tupNew al hp (same_new hp) upd_same q2)⟩⟩
  · obtain ⟨v, rfl, r1⟩ := rp.one
    obtain ⟨a, vs, rfl, q1, q2⟩ := r1.rol
    exact call_tuple_of pins s σ H _ us Q I r ⟨a, vs, rfl, .inl ⟨q1, fun p hp => k _ _ _ h (same_new hp) (Rep.tupNew al hp (same_new hp) upd_same q2)⟩⟩
  · obtain ⟨v, rfl, r1⟩ := rp.one
    have t := r1.tupR
    obtain ⟨a, vs, rfl, q1, q2⟩ := r1.tup
    exact call_tuple_of pins s σ H _ us Q I r ⟨a, vs, rfl, .inr ⟨q1, k _ _ H h same0 t⟩⟩
  · exact h.elim
def listD : FnD
  | [.lst ds], k => k (.lst ds)
  | [.rol ds], k => k (.lst ds)
  | [.tup ds], k => k (.lst ds)
  | _, _ => False
theorem cd_list : CallR X (.type "list") (CallU X.K listD) := by
  rintro pins s σ H xs us Q I r ⟨N, z, ds, R, al, rp, h, k⟩
  unfold listD at h
  split at h
  · obtain ⟨v, rfl, r1⟩ := rp.one
    obtain ⟨a, vs, rfl, q1, q2⟩ := r1.lst
    exact call_list_of pins s σ H _ us Q I r ⟨a, vs, rfl, .inl (SqL.of q1), fun p hp => k _ _ _ h (same_new hp) (Rep.lstNew al hp (same_new hp) upd_same q2)⟩
  · obtain ⟨v, rfl, r1⟩ := rp.one
    obtain ⟨a, vs, rfl, q1, q2⟩ := r1.rol
    exact call_list_of pins s σ H _ us Q I r ⟨a, vs, rfl, .inl q1, fun p hp => k _ _ _ h (same_new hp) (Rep.lstNew al hp (same_new hp) upd_same q2)⟩
  · obtain ⟨v, rfl, r1⟩ := rp.one
    obtain ⟨a, vs, rfl, q1, q2⟩ := r1.tup
    exact call_list_of pins s σ H _ us Q I r ⟨a, vs, rfl, .inr q1, fun p hp => k _ _ _ h (same_new hp) (Rep.lstNew al hp (same_new hp) upd_same q2)⟩
  · exact h.elim
def sumD : FnD
  | [.lst ds], k => ∃ ns : List Int, ds = ns.map D.int ∧ k (.int ns.sum)
  | _, _ => False
theorem cd_sum (hc : X.calm = true) : CallR X (.builtin "sum") (CallU X.K sumD) := by
  rintro pins s σ H xs us Q I r ⟨N, z, ds, R, al, rp, h, k⟩
  unfold sumD at h
  split at h
  · obtain ⟨v, rfl, r1⟩ := rp.one
    obtain ⟨a, vs, rfl, q1, q2⟩ := r1.lst
    obtain ⟨ns, rfl, h⟩ := h
    obtain rfl := q2.toInts
    exact cr_sum hc pins s σ H _ us Q I r ⟨a, ns, rfl, SqL.of q1, k _ _ H h same0 .i⟩
  · exact h.elim
theorem Reps.toBls {K : PySem.W.Frag} {N : Addr → Prop} {H : Hp} {ns : List Bool} {vs : List V} (h : Reps K N H (ns.map D.bl) vs) : vs = ns.map V.bl := by
  induction ns generalizing vs with
  | nil => rwa [List.map_nil, Reps] at h
  | cons n ns ih =>
    rw [List.map_cons, Reps] at h
    obtain ⟨v, r, rfl, h2, h3⟩ := h
    rw [Rep] at h2
    rw [h2, ih h3]; rfl
def anyD (f : List Bool → Bool) : FnD
  | [.lst ds], k => ∃ bs : List Bool, ds = bs.map D.bl ∧ k (.bl (f bs))
  | _, _ => False
theorem cd_any (hc : X.calm = true) : CallR X (.builtin "any") (CallU X.K (anyD fun bs => bs.any id)) := by
  rintro pins s σ H xs us Q I r ⟨N, z, ds, R, al, rp, h, k⟩
  unfold anyD at h
  split at h
  · obtain ⟨v, rfl, r1⟩ := rp.one
    obtain ⟨a, vs, rfl, q1, q2⟩ := r1.lst
    obtain ⟨bs, rfl, h⟩ := h
    obtain rfl := q2.toBls
    exact cr_any hc pins s σ H _ us Q I r ⟨a, bs, rfl, SqL.of q1, k _ _ H h same0 .b⟩
  · exact h.elim
theorem cd_all (hc : X.calm = true) : CallR X (.builtin "all") (CallU X.K (anyD fun bs => bs.all id)) := by
  rintro pins s σ H xs us Q I r ⟨N, z, ds, R, al, rp, h, k⟩
  unfold anyD at h
  split at h
  · obtain ⟨v, rfl, r1⟩ := rp.one
    obtain ⟨a, vs, rfl, q1, q2⟩ := r1.lst
    obtain ⟨bs, rfl, h⟩ := h
    obtain rfl := q2.toBls
    exact cr_all hc pins s σ H _ us Q I r ⟨a, bs, rfl, SqL.of q1, k _ _ H h same0 .b⟩
  · exact h.elim
/-! ### isinstance -/
structure OwnTy (K : PySem.W.Frag) (C : Addr) : Prop where
  cl : Cls K C
  ha : PySem.W.findIn K (.ref C) "__class__" = some (some (.builtin "object.__class__"))
  hn : PySem.W.specialIn K (.builtin "object.__class__") "__get__" = some (some (.builtin "getset_descriptor.__get__"))
  htk : PySem.W.takesIn K (.builtin "object.__class__") = some true
  hm : PySem.W.mroIn K C (.type "object") = some true
theorem Own.oty {K : PySem.W.Frag} {C : Addr} {fs : List Str} (O : Own K C fs) : OwnTy K C := ⟨O.cl, O.ha, O.hn, O.htk, O.hm⟩
def tyD (K : PySem.W.Frag) : D → Value → Prop
  | .non, t => t = .type "NoneType"
  | .bl _, t => t = .type "bool"
  | .int _, t => t = .type "int"
  | .str _, t => t = .type "str"
  | .lst _, t => t = .type "list"
  | .tup _, t => t = .type "tuple"
  | .ins C _ _, t => t = .ref C ∧ OwnTy K C
  | .dic _ _, t => t = .type "dict"
  | _, _ => False
theorem tyX_of {K : PySem.W.Frag} {N : Addr → Prop} {z : Z} {H : Hp} {d : D} {v : V} {t : Value} (r : RepP K N z H d v) (h : tyD K d t) : TyX K H v t := by
  cases d with
  | non => obtain rfl := r.non; cases h; exact .base .non
  | bl b => obtain rfl := r.bl; cases h; exact .base (.bl b)
  | int b => obtain rfl := r.int; cases h; exact .base (.int b)
  | str b => obtain rfl := r.str; cases h; exact .base (.str b)
  | lst ds => obtain ⟨a, vs, rfl, q, _⟩ := r.lst; cases h; exact .base (.lst q)
  | tup ds =>
    obtain ⟨a, vs, rfl, q, _⟩ := r.tup
    cases h
    rcases q with (q | ⟨o, q⟩) | ⟨o, its, n, q, q2, _⟩
    · exact .base (.tup q)
    · exact .fTuple q
    · exact .kTuple q q2
  | dic ks ds => obtain ⟨a, vs, rfl, q, _⟩ := r.dic; cases h; exact .base (.dK q)
  | ins C ns ds => obtain ⟨a, dx, vs, rfl, q, _⟩ := r.ins; obtain ⟨rfl, O⟩ := h; exact .base (.ins q O.cl O.ha O.hn O.htk O.hm)
  | _ => exact h.elim
def clsD : D → Option Value
  | .ty n => some (.type n)
  | .adr C => some (.ref C)
  | _ => none
def isiD (K : PySem.W.Frag) : FnD
  | [d, c], k => ∃ t u b, tyD K d t ∧ clsD c = some u ∧ PySem.W.kitOne K t u = some b ∧ k (.bl b)
  | _, _ => False
theorem cd_isi : CallR X (.builtin "isinstance") (CallU X.K (isiD X.K)) := by
  rintro pins s σ H xs us Q I r ⟨N, z, ds, R, al, rp, h, k⟩
  unfold isiD at h
  split at h
  · obtain ⟨v, w, rfl, r1, r2⟩ := rp.two
    obtain ⟨t, u, b, h1, h2, h3, h⟩ := h
    rename_i d c
    refine call_isi pins s σ H _ us Q I r ⟨v, w, t, u, b, rfl, ?_, tyX_of r1 h1, h3, k _ _ H h same0 .b⟩
    cases c with
    | ty n => cases h2; rw [r2.ty]; exact .ty n
    | adr C => cases h2; rw [r2.adr]; exact .own C
    | _ => cases h2
  · exact h.elim
/-! ### fields -/
def AttrOk (K : PySem.W.Frag) (C : Addr) (f : Str) : Prop := Cls K C ∧ NoAttr K C f
theorem Own.at {K : PySem.W.Frag} {C : Addr} {fs : List Str} (O : Own K C fs) {f : Str} (h : f ∈ fs) : AttrOk K C f := ⟨O.cl, O.no f h⟩
def fldD (K : PySem.W.Frag) (f : Str) : D → (D → Prop) → Prop
  | .ins C ns ds, k => AttrOk K C f ∧ ∃ d, (ns.zip ds).lookup f = some d ∧ k d
  | _, _ => False
theorem lookup_reps {K : PySem.W.Frag} {N : Addr → Prop} {H : Hp} {f : Str} : ∀ {ns : List Str} {ds : List D} {vs : List V} {d : D}, Reps K N H ds vs → (ns.zip ds).lookup f = some d → ∃ v, (ns.zip vs).lookup f = some v ∧ Rep K N H d v
  | [], ds, vs, d, r, h => by simp at h
  | n :: ns, [], vs, d, r, h => by simp at h
  | n :: ns, d' :: ds, vs, d, r, h => by
    rw [Reps] at r
    obtain ⟨v, vr, rfl, h1, h2⟩ := r
    rw [List.zip_cons_cons] at h ⊢
    rw [List.lookup_cons] at h ⊢
    cases e : f == n with
    | true => rw [e] at h; cases h; exact ⟨v, rfl, h1⟩
    | false => rw [e] at h; exact lookup_reps h2 h
theorem de_fld {t : DX D} {f : Str} (he : DP X W e t) (hb : attributeBase e f X.env (eval e X.env) = eval e X.env) : DE X W (.Attribute e f pos) (dUn (fldD X.K f) t) := pe_to (pe_fld he hb) fun σ H Q ⟨M, ρ, z, O, R, RX, w, h, x, k⟩ =>
  ⟨M, ρ, z, O, _, RX, w, h, x, fun d ρ' z' v H' O' hd g w' r => by
    cases d with
    | ins C ns ds =>
      obtain ⟨⟨q1, q2⟩, d, q3, hd⟩ := hd
      obtain ⟨a, dx, vs, rfl, h1, h2, h3⟩ := r.ins
      obtain ⟨u, h4, h5⟩ := lookup_reps h3 q3
      exact ⟨a, C, dx, _, u, rfl, h1, q1, q2, h4, k _ ρ' z' _ H' O' hd g w' h5⟩
    | _ => exact hd.elim⟩
/-! ### methods of texts -/
abbrev FnS := Str → List D → (D → Prop) → Prop
def MtS (K : PySem.W.Frag) (f : FnS) : V → List V → Hp → VK → Prop := fun x xs H Q => ∃ N z y ds R, (∀ a, N a → H a ≠ none) ∧ x = .str y ∧ RepPs K N z H ds xs ∧ f y ds R ∧ ∀ d v H', R d → Same H H' → Rep K N H' d v → Q v H'
def dMt (f : FnS) (to : DX D) (t : DX (List D)) : DX D := fun ρ z R RX => to ρ z (fun d ρ1 z1 => ∃ y, d = .str y ∧ t ρ1 z1 (fun ds ρ2 z2 => f y ds fun r => R r ρ2 z2) RX) RX
theorem UG.mt {K : PySem.W.Frag} {f : FnS} {to : DX D} {t : DX (List D)} {σ : L2.St} {H : Hp} {Q : VK} (h : UG K W (relE K) (dMt f to t) σ H Q) : tBM K "str" (MtS K f) (UG K W (RepP K) to) (UG K W (RepPs K) t) σ H Q := by
  obtain ⟨M, ρ, z, O, R, RX, w, h, x, k⟩ := h
  refine ⟨M, ρ, z, O, _, RX, w, h, x, fun d ρ1 z1 v H1 O1 ⟨y, hy, hd⟩ g1 w1 r1 => ?_⟩
  subst hy
  obtain rfl := r1.str
  refine ⟨rfl, M, ρ1, z1, O1, _, RX, w1, hd, x.after g1.toGo, fun ds ρ2 z2 vs H2 O2 h2 g2 w2 r2 => ⟨_, z2, y, ds, _, w2.alloc, rfl, r2, h2, fun d v H3 hd s r => k d ρ2 z2 v H3 O2 hd (g1.trans (g2.trans (w2.grow s).2)) (w2.grow s).1 r⟩⟩
theorem de_mt {id : String} {name : Str} {o : Expr} {apos : Pos} {f : FnS} {to : DX D} {t : DX (List D)} (slot : Slot "str" name id) (hty : typeOf (.builtin id) = pure (.type "method_descriptor")) (hm : MtR X id (MtS X.K f)) (ho : DP X W o to) (ha : DA X W (e :: es) t)
    (hbase : attributeBase o name X.env (eval o X.env) = eval o X.env := by rfl)
    (hfew : ((backTo pos (starEach (e :: es) X.env)).all (fun x => !x.1) && (backToKw pos (keywordEach [] X.env)).all (fun x => x.1.isSome)
      && decide ((e :: es).length + ([] : List Keyword).length + (if ([] : List Keyword).isEmpty then 0 else 1) < 30)) = true := by rfl)
    (hline : (apos.endLine == pos.line) = true := by rfl) (hs : starEach (e :: es) X.env = (false, eval e X.env) :: starEach es X.env := by rfl) (hplain : (backTo pos (starEach es X.env)).any (·.1) = false := by rfl) :
    DE X W (.Call (.Attribute o name apos) (e :: es) [] pos) (dMt f to t) := pe_to (pe_bm PySem.F.plainAttrs_str slot hty hm ho ha hbase hfew hline hs hplain) fun _ _ _ h => h.mt
def dMt0 (f : FnS) (to : DX D) : DX D := fun ρ z R RX => to ρ z (fun d ρ1 z1 => ∃ y, d = .str y ∧ f y [] fun r => R r ρ1 z1) RX
theorem de_mt0 {id : String} {name : Str} {o : Expr} {apos : Pos} {f : FnS} {to : DX D} (slot : Slot "str" name id) (hty : typeOf (.builtin id) = pure (.type "method_descriptor")) (hm : MtR X id (MtS X.K f)) (ho : DP X W o to)
    (hbase : attributeBase o name X.env (eval o X.env) = eval o X.env := by rfl) (hline : (apos.endLine == pos.line) = true := by rfl) :
    DE X W (.Call (.Attribute o name apos) [] [] pos) (dMt0 f to) := pe_to (pe_bm0 PySem.F.plainAttrs_str slot hty hm ho hbase hline) fun σ H Q ⟨M, ρ, z, O, R, RX, w, h, x, k⟩ => by
  refine ⟨M, ρ, z, O, _, RX, w, h, x, fun d ρ1 z1 v H1 O1 ⟨y, hy, hd⟩ g1 w1 r1 => ?_⟩
  subst hy
  obtain rfl := r1.str
  exact ⟨rfl, _, z1, y, [], _, w1.alloc, rfl, RepPs.nil, hd, fun d v H3 hd s r => k d ρ1 z1 v H3 O1 hd (g1.trans (w1.grow s).2) (w1.grow s).1 r⟩
def splitD : FnS
  | z, [.str y], k => (y.length == 0) = false ∧ z.length + 2 ≤ sizeLine ∧ k (.lst ((Txt.split z y).map .str))
  | _, _, _ => False
theorem md_split : MtR X "str.split" (MtS X.K splitD) := by
  rintro pins s σ H x xs v us Q I rx rs ⟨N, z, y, ds, R, al, rfl, rp, h, k⟩
  unfold splitD at h
  split at h
  · obtain ⟨w, rfl, r1⟩ := rp.one
    obtain rfl := r1.str
    exact mt_split pins s σ H _ _ v us Q I rx rs ⟨_, _, rfl, rfl, h.1, h.2.1, fun p hp => k _ _ _ h.2.2 (same_new hp) (Rep.lstNew al hp (same_new hp) upd_same Reps.strs)⟩
  · exact h.elim
def joinD : FnS
  | z, [.lst ds], k => ∃ ys : List Str, ds = ys.map .str ∧ (ys.map (·.length)).sum + ys.length * z.length ≤ 16777216 ∧ k (.str (Txt.join z ys))
  | z, [.tup ds], k => ∃ ys : List Str, ds = ys.map .str ∧ (ys.map (·.length)).sum + ys.length * z.length ≤ 16777216 ∧ k (.str (Txt.join z ys))
  | _, _, _ => False
theorem md_join : MtR X "str.join" (MtS X.K joinD) := by
  rintro pins s σ H x xs v us Q I rx rs ⟨N, z, y, ds, R, al, rfl, rp, h, k⟩
  unfold joinD at h
  split at h
  · obtain ⟨w, rfl, r1⟩ := rp.one
    obtain ⟨a, vs, rfl, q1, q2⟩ := r1.lst
    obtain ⟨ys, rfl, h1, h⟩ := h
    obtain rfl := q2.toStrs
    exact mt_join pins s σ H _ _ v us Q I rx rs ⟨_, a, ys, rfl, rfl, .inl (SqL.of q1), h1, k _ _ H h same0 .s⟩
  · obtain ⟨w, rfl, r1⟩ := rp.one
    obtain ⟨a, vs, rfl, q1, q2⟩ := r1.tup
    obtain ⟨ys, rfl, h1, h⟩ := h
    obtain rfl := q2.toStrs
    exact mt_join pins s σ H _ _ v us Q I rx rs ⟨_, a, ys, rfl, rfl, .inr q1, h1, k _ _ H h same0 .s⟩
  · exact h.elim
/-- a method of one text -/
def str1D (C : Str → Str → Prop) (g : Str → Str → D) : FnS
  | z, [.str y], k => C z y ∧ k (g z y)
  | _, _, _ => False
theorem md_1 {id : String} {C : Str → Str → Prop} {g : Str → Str → D} {gv : Str → Str → V} (h : MtR X id (fun x xs H Q => ∃ a b, x = .str a ∧ xs = [.str b] ∧ C a b ∧ Q (gv a b) H)) (r : ∀ N H a b, Rep X.K N H (g a b) (gv a b)) : MtR X id (MtS X.K (str1D C g)) := by
  rintro pins s σ H x xs v us Q I rx rs ⟨N, z, y, ds, R, al, rfl, rp, h', k⟩
  unfold str1D at h'
  split at h'
  · obtain ⟨w, rfl, r1⟩ := rp.one
    obtain rfl := r1.str
    exact h pins s σ H _ _ v us Q I rx rs ⟨_, _, rfl, rfl, h'.1, k _ _ H h'.2 same0 (r _ _ _ _)⟩
  · exact h'.elim
theorem md_1' {id : String} {g : Str → Str → D} {gv : Str → Str → V} (h : MtR X id (fun x xs H Q => ∃ a b, x = .str a ∧ xs = [.str b] ∧ Q (gv a b) H)) (r : ∀ N H a b, Rep X.K N H (g a b) (gv a b)) : MtR X id (MtS X.K (str1D (fun _ _ => True) g)) :=
  md_1 (gv := gv) (fun pins s σ H x xs v us Q I rx rs ⟨a, b, h1, h2, _, q⟩ => h pins s σ H x xs v us Q I rx rs ⟨a, b, h1, h2, q⟩) r
theorem md_strip : MtR X "str.strip" (MtS X.K (str1D (fun a _ => a.length ≤ sizeLine) fun a b => .str (Txt.stripChars a b))) := md_1 mt_stripChars fun _ _ _ _ => .s
theorem md_startswith : MtR X "str.startswith" (MtS X.K (str1D (fun _ _ => True) fun a b => .bl (Txt.startswith a b))) := md_1' mt_startswith fun _ _ _ _ => .b
theorem md_endswith : MtR X "str.endswith" (MtS X.K (str1D (fun _ _ => True) fun a b => .bl (Txt.endswith a b))) := md_1' mt_endswith fun _ _ _ _ => .b
theorem md_find : MtR X "str.find" (MtS X.K (str1D (fun _ _ => True) fun a b => .int (Txt.find a b))) := md_1' mt_find fun _ _ _ _ => .i
theorem md_count : MtR X "str.count" (MtS X.K (str1D (fun _ _ => True) fun a b => .int (Txt.count a b))) := md_1' mt_count fun _ _ _ _ => .i
/-! ### texts of parts -/
def DF (X : Cx) (W : WX) (e : Expr) (t : DX Str) : Prop := PE X e (UG X.K W (fun _ _ _ s (v : V) => v = .str s) t)
def dFs (s : Str) : DX Str := fun ρ z R RX => R s ρ z
theorem df_str {y j} : DF X W (.Constant (.str y) j pos) (dFs y) := pe_to pe_str fun σ H Q ⟨M, ρ, z, O, R, RX, w, h, x, k⟩ => k y ρ z _ H O h .refl w rfl
def fmtD : D → (Str → Prop) → Prop
  | .str y, k => y.length ≤ sizeLine ∧ k y
  | .int i, k => i.natAbs.log2 < 1920 ∧ k (toString i)
  | _, _ => False
def dFmt (t : DX D) : DX Str := fun ρ z R RX => t ρ z (fun d ρ' z' => fmtD d fun s => R s ρ' z') RX
theorem df_fmt {t : DX D} (he : DP X W e t) : DF X W (.FormattedValue e (-1) none pos) (dFmt t) := pe_to (pe_fmt he) fun σ H Q ⟨M, ρ, z, O, R, RX, w, h, x, k⟩ =>
  ⟨M, ρ, z, O, _, RX, w, h, x, fun d ρ' z' v H' O' hd g w' r => by
    cases d with
    | str y => exact .inl ⟨y, r.str, hd.1, k _ ρ' z' _ H' O' hd.2 g w' rfl⟩
    | int i => exact .inr ⟨i, r.int, hd.1, k _ ρ' z' _ H' O' hd.2 g w' rfl⟩
    | _ => exact hd.elim⟩
def dJs : List (DX Str) → Str → DX Str
  | [], acc => fun ρ z R RX => R acc ρ z
  | t :: ts, acc => fun ρ z R RX => t ρ z (fun y ρ' z' => (acc ++ y).length ≤ sizeLine ∧ dJs ts (acc ++ y) ρ' z' R RX) RX
theorem UG.js {K : PySem.W.Frag} {σ : L2.St} {Q : Str → Hp → Prop} : ∀ {ts : List (DX Str)} {acc : Str} {H : Hp}, UG K W (fun _ _ _ (s v : Str) => v = s) (dJs ts acc) σ H Q →
    tJs (ts.map fun t => UG K W (fun _ _ _ s (v : V) => v = .str s) t) acc σ H Q
  | [], acc, H, ⟨M, ρ, z, O, R, RX, w, h, x, k⟩ => k acc ρ z acc H O h .refl w rfl
  | t :: ts, acc, H, ⟨M, ρ, z, O, R, RX, w, h, x, k⟩ => ⟨M, ρ, z, O, _, RX, w, h, x, fun y ρ' z' v H' O' ⟨hl, hd⟩ g w' r => ⟨y, r, hl, UG.js ⟨M, ρ', z', O', R, RX, w', hd, x.after g.toGo, fun d ρ2 z2 v H2 O2 h2 g2 w2 r2 => k d ρ2 z2 v H2 O2 h2 (g.trans g2) w2 r2⟩⟩⟩
def dJoin (t : DX Str) : DX D := fun ρ z R RX => t ρ z (fun y ρ' z' => R (.str y) ρ' z') RX
abbrev relF : (Addr → Prop) → Z → Hp → Str → V → Prop := fun _ _ _ s v => v = .str s
theorem pj_nil : PJ X [] (([] : List (DX Str)).map fun t => UG X.K W relF t) := .nil
theorem pj_cons {t : DX Str} {ts : List (DX Str)} (h : DF X W e t) (r : PJ X es (ts.map fun t => UG X.K W relF t)) : PJ X (e :: es) ((t :: ts).map fun t => UG X.K W relF t) := .cons h r
theorem de_joined {v1 v2 : Expr} {ts : List (DX Str)} (h : PJ X (v1 :: v2 :: es) (ts.map fun t => UG X.K W relF t)) : DE X W (.JoinedStr (v1 :: v2 :: es) pos) (dJoin (dJs ts Str.empty)) := pe_to (pe_joined h) fun σ H Q ⟨M, ρ, z, O, R, RX, w, h, x, k⟩ =>
  UG.js ⟨M, ρ, z, O, _, RX, w, h, x, fun d ρ' z' v H' O' hd g w' r => by
    obtain rfl : v = d := r
    exact k _ ρ' z' _ H' O' hd g w' .s⟩
theorem de_joined1 {t : DX Str} (h : DF X W e t) : DE X W (.JoinedStr [e] pos) (dJoin t) := pe_to (pe_joined1 h) fun σ H Q ⟨M, ρ, z, O, R, RX, w, h, x, k⟩ =>
  ⟨M, ρ, z, O, _, RX, w, h, x, fun d ρ' z' v H' O' hd g w' r => by
    obtain rfl : v = .str d := r
    exact k _ ρ' z' _ H' O' hd g w' .s⟩
end
end Lay

set_option Elab.async false
set_option linter.all false
set_option maxRecDepth 100000
set_option maxHeartbeats 2000000
namespace Lay
open PySem PySem.Spec PyProof.Rows L2
/-! ### statements -/
structure DEnds where
  nx : List Sl → Z → Prop
  rt : D → Z → Prop
  ex : KX
  bk : List Sl → Z → Prop := fun _ _ => False
  ct : List Sl → Z → Prop := fun _ _ => False
abbrev DTS := DEnds → List Sl → Z → Prop
structure EndsOk (K : PySem.W.Frag) (M : Addr → Prop) (W : WX) (H : Hp) (z : Z) (O : Nat → Option Addr) (R : DEnds) (D : Ends) : Prop where
  nx : ∀ ρ' z' σ' H' O', R.nx ρ' z' → Go M H z O H' z' O' → Wd K M H' σ' ρ' z' O' → D.nx σ' H'
  bk : ∀ ρ' z' σ' H' O', R.bk ρ' z' → Go M H z O H' z' O' → Wd K M H' σ' ρ' z' O' → D.bk σ' H'
  ct : ∀ ρ' z' σ' H' O', R.ct ρ' z' → Go M H z O H' z' O' → Wd K M H' σ' ρ' z' O' → D.ct σ' H'
  rt : ∀ d ρ' z' v σ' H' O', R.rt d z' → Go M H z O H' z' O' → Wd K M H' σ' ρ' z' O' → Rep K (NN M z' O') H' d v → D.rt v H'
  ex : XOk K M W H z O R.ex
theorem EndsOk.after {K : PySem.W.Frag} {M : Addr → Prop} {W : WX} {H H1 : Hp} {z z1 : Z} {O O1 : Nat → Option Addr} {R : DEnds} {D : Ends} (x : EndsOk K M W H z O R D) (g : Go M H z O H1 z1 O1) : EndsOk K M W H1 z1 O1 R D :=
  ⟨fun ρ' z' σ' H' O' h k w => x.nx ρ' z' σ' H' O' h (g.trans k) w, fun ρ' z' σ' H' O' h k w => x.bk ρ' z' σ' H' O' h (g.trans k) w, fun ρ' z' σ' H' O' h k w => x.ct ρ' z' σ' H' O' h (g.trans k) w,
    fun d ρ' z' v σ' H' O' h k w r => x.rt d ρ' z' v σ' H' O' h (g.trans k) w r, x.ex.after g⟩
def US (K : PySem.W.Frag) (W : WX) (t : DTS) : TS := fun D σ H => ∃ M ρ z O R, Wd K M H σ ρ z O ∧ t R ρ z ∧ EndsOk K M W H z O R D
def DS (X : Cx) (W : WX) (st : Stmt) (t : DTS) : Prop := PS X st (US X.K W t)
def DSs (X : Cx) (W : WX) (st : List Stmt) (t : DTS) : Prop := PSs X st (US X.K W t)
section
variable {X : Cx} {W : WX} {e a b : Expr} {es : List Expr} {st : Stmt} {sts : List Stmt} {pos : Pos}
def dNext : DTS := fun R ρ z => R.nx ρ z
def dSeq (t u : DTS) : DTS := fun R ρ z => t { R with nx := u R } ρ z
theorem dss_nil : DSs X W [] dNext := pss_to pss_nil fun D σ H ⟨M, ρ, z, O, R, w, h, k⟩ => k.nx ρ z σ H O h .refl w
theorem dss_cons {t u : DTS} (h1 : DS X W st t) (h2 : DSs X W sts u) : DSs X W (st :: sts) (dSeq t u) := pss_to (pss_cons h1 h2) fun D σ H ⟨M, ρ, z, O, R, w, h, k⟩ =>
  ⟨M, ρ, z, O, _, w, h, ⟨fun ρ' z' σ' H' O' h g w' => ⟨M, ρ', z', O', R, w', h, k.after g⟩, k.bk, k.ct, k.rt, k.ex⟩⟩
theorem dss_one {t : DTS} (h1 : DS X W st t) : DSs X W [st] t := pss_one h1
theorem ds_pass : DS X W (.Pass pos) dNext := ps_to ps_pass fun D σ H ⟨M, ρ, z, O, R, w, h, k⟩ => k.nx ρ z σ H O h .refl w
theorem ds_break : DS X W (.Break pos) (fun R ρ z => R.bk ρ z) := ps_to ps_break fun D σ H ⟨M, ρ, z, O, R, w, h, k⟩ => k.bk ρ z σ H O h .refl w
theorem ds_continue : DS X W (.Continue pos) (fun R ρ z => R.ct ρ z) := ps_to ps_continue fun D σ H ⟨M, ρ, z, O, R, w, h, k⟩ => k.ct ρ z σ H O h .refl w
theorem ds_doc {x j pos'} : DS X W (.Expr (.Constant (.str x) j pos) pos') dNext := ps_to ps_doc fun D σ H ⟨M, ρ, z, O, R, w, h, k⟩ => k.nx ρ z σ H O h .refl w
def dDrop (t : DX D) : DTS := fun R ρ z => t ρ z (fun _ ρ' z' => R.nx ρ' z') R.ex
theorem ds_expr {t : DX D} (he : DE X W e t) (hs : swapsWith e none pos.line X.env = pure false := by rfl) : DS X W (.Expr e pos) (dDrop t) := ps_to (ps_expr he hs) fun D σ H ⟨M, ρ, z, O, R, w, h, k⟩ =>
  ⟨M, ρ, z, O, _, R.ex, w, h, k.ex, fun d ρ' z' v H' O' hd g w' r => k.nx ρ' z' σ H' O' hd g.toGo w'⟩
def dRet (t : DX D) : DTS := fun R ρ z => t ρ z (fun d _ z' => R.rt d z') R.ex
theorem ds_ret {t : DX D} (he : DE X W e t) : DS X W (.Return (some e) pos) (dRet t) := ps_to (ps_ret he) fun D σ H ⟨M, ρ, z, O, R, w, h, k⟩ =>
  ⟨M, ρ, z, O, _, R.ex, w, h, k.ex, fun d ρ' z' v H' O' hd g w' r => k.rt d ρ' z' v σ H' O' hd g.toGo w' r⟩
theorem ds_retN : DS X W (.Return none pos) (fun R _ z => R.rt .non z) := ps_to ps_retN fun D σ H ⟨M, ρ, z, O, R, w, h, k⟩ => k.rt .non ρ z .non σ H O h .refl w .n
def dIf (c : DX Bool) (t u : DTS) : DTS := fun R ρ z => c ρ z (fun b ρ' z' => if b = true then t R ρ' z' else u R ρ' z') R.ex
theorem ds_if {c : Expr} {as bs : List Stmt} {tc : DX Bool} {t u : DTS} (hc : DT X W c tc) (ha : DSs X W as t) (hb : DSs X W bs u) : DS X W (.If c as bs pos) (dIf tc t u) := ps_to (ps_if hc ha hb) fun D σ H ⟨M, ρ, z, O, R, w, h, k⟩ =>
  ⟨M, ρ, z, O, _, R.ex, w, h, k.ex, fun b ρ' z' c H' O' hd g w' r => by
    obtain rfl : c = b := r
    cases c with
    | true => rw [if_pos rfl] at hd ⊢; exact ⟨M, ρ', z', O', R, w', hd, k.after g.toGo⟩
    | false => rw [if_neg Bool.false_ne_true] at hd ⊢; exact ⟨M, ρ', z', O', R, w', hd, k.after g.toGo⟩⟩
def dCut (t : DTS) : DTS := fun R ρ z => ∃ S : List Sl → Z → Prop, t { R with nx := S } ρ z ∧ ∀ ρ' z', S ρ' z' → R.nx ρ' z'
theorem ds_cut {t : DTS} (h : DS X W st t) : DS X W st (dCut t) := ps_to h fun D σ H ⟨M, ρ, z, O, R, w, ⟨S, h, i⟩, k⟩ =>
  ⟨M, ρ, z, O, _, w, h, ⟨fun ρ' z' σ' H' O' h => k.nx ρ' z' σ' H' O' (i ρ' z' h), k.bk, k.ct, k.rt, k.ex⟩⟩
/-! ### targets -/
abbrev DTG := D → List Sl → Z → (List Sl → Z → Prop) → Prop
abbrev DTGs := List D → List Sl → Z → (List Sl → Z → Prop) → Prop
/-- a target: the slots vs are stored -/
def UT (K : PySem.W.Frag) (ss : List Nat) (g : DTG) : TG := fun v σ H Q => ∃ M ρ z O d R, Wd K M H σ ρ z O ∧ Rep K (NN M z O) H d v ∧ g d ρ z R ∧
  ∀ ρ' z' σ' H' O', R ρ' z' → GoE M H z O H' z' O' → Wd K M H' σ' ρ' z' O' → σ'.length = σ.length → (∀ j, j ∉ ss → σ'[j]? = σ[j]?) → Q σ' H'
def UTs (K : PySem.W.Frag) (ss : List Nat) (g : DTGs) : TGs := fun vs σ H Q => ∃ M ρ z O ds R, Wd K M H σ ρ z O ∧ Reps K (NN M z O) H ds vs ∧ g ds ρ z R ∧
  ∀ ρ' z' σ' H' O', R ρ' z' → GoE M H z O H' z' O' → Wd K M H' σ' ρ' z' O' → σ'.length = σ.length → (∀ j, j ∉ ss → σ'[j]? = σ[j]?) → Q σ' H'
def DG (X : Cx) (e : Expr) (ss : List Nat) (g : DTG) : Prop := PG X e (UT X.K ss g)
def DGs (X : Cx) (es : List Expr) (ss : List Nat) (g : DTGs) : Prop := PGs X es (UTs X.K ss g)
theorem pg_to {g g' : TG} (h : PG X e g) (i : ∀ v σ H Q, g' v σ H Q → g v σ H Q) : PG X e g' := ⟨fun pins s σ H v u Q I r q => h.run pins s σ H v u Q I r (i v σ H Q q)⟩
theorem pgs_to {g g' : TGs} (h : PGs X es g) (i : ∀ v σ H Q, g' v σ H Q → g v σ H Q) : PGs X es g' := ⟨fun pins s σ H v u Q I r q => h.run pins s σ H v u Q I r (i v σ H Q q)⟩
def dgName (i : Nat) : DTG := fun d ρ z R => R (ρ.set i (.val d)) z
theorem Wd.set {K : PySem.W.Frag} {M : Addr → Prop} {H : Hp} {σ : L2.St} {ρ : List Sl} {z : Z} {O : Nat → Option Addr} (w : Wd K M H σ ρ z O) (i : Nat) {d : D} {v : V} (r : Rep K (NN M z O) H d v) :
    Wd K M H (σ.set i (some v)) (ρ.set i (.val d)) z (off O i) := w.setv i _ (List.length_set ..) (fun j hj => List.getElem?_set_ne (Ne.symm hj)) fun hi => by
  rw [List.getElem?_set_self (by rw [w.len]; exact hi)]
  exact ⟨rfl, v, rfl, Rep.mono ⟨fun a o q _ => q, fun a q => .inl q.off⟩ _ _ r⟩
theorem dg_name {i : Nat} {x : Str} (hN : X.N.Nodup) (hi : X.N[i]? = some x) (hx : Loc X.env.scope x) (hf : X.fn x = true ∨ X.env.scope.names.lookup x = some .local := by first | exact .inl rfl | exact .inr rfl | assumption) : DG X (.Name x pos) [i] (dgName i) :=
  pg_to (pg_name hN hi hx hf) fun v σ H Q ⟨M, ρ, z, O, d, R, w, r, h, k⟩ => k _ z _ H _ h .off (w.set i r) (List.length_set ..) fun j hj => List.getElem?_set_ne fun e => hj (by rw [e]; exact List.mem_singleton.mpr rfl)
def dgNil : DTGs := fun ds ρ z R => ds = [] ∧ R ρ z
def dgCons (g : DTG) (gs : DTGs) : DTGs := fun ds ρ z R => match ds with | d :: r => g d ρ z (fun ρ' z' => gs r ρ' z' R) | [] => False
theorem dgs_nil : DGs X [] [] dgNil := pgs_to pgs_nil fun vs σ H Q ⟨M, ρ, z, O, ds, R, w, r, ⟨h0, h⟩, k⟩ => by subst h0; rw [Reps] at r; exact ⟨r, k ρ z σ H O h .refl w rfl fun _ _ => rfl⟩
theorem dgs_cons {s1 s2 : List Nat} {g : DTG} {gs : DTGs} (h1 : DG X e s1 g) (h2 : DGs X es s2 gs)
    (he : (assignEach (e :: es) X.env).map (fun x => x.2) = assign e X.env :: (assignEach es X.env).map (fun x => x.2) := by rfl) : DGs X (e :: es) (s1 ++ s2) (dgCons g gs) := pgs_to (pgs_cons h1 h2 he) fun vs σ H Q ⟨M, ρ, z, O, ds, R, w, r, h, k⟩ => by
  cases ds with
  | nil => exact h.elim
  | cons d ds =>
    rw [Reps] at r
    obtain ⟨v, vr, rfl, r1, r2⟩ := r
    exact ⟨v, vr, rfl, M, ρ, z, O, d, _, w, r1, h, fun ρ' z' σ' H' O' h' g' w' l1 e1 => ⟨M, ρ', z', O', ds, R, w', Reps.mono g'.ext _ _ r2, h', fun ρ2 z2 σ2 H2 O2 h2 g2 w2 l2 e2 => k ρ2 z2 σ2 H2 O2 h2 (g'.trans g2) w2 (l2.trans l1)
      fun j hj => (e2 j fun m => hj (List.mem_append_right _ m)).trans (e1 j fun m => hj (List.mem_append_left _ m))⟩⟩
def dgTup (n : Nat) (gs : DTGs) : DTG := fun d ρ z R => match d with | .tup ds => ds.length = n ∧ gs ds ρ z R | _ => False
theorem dg_tup {k : Nat} {ss : List Nat} {gs : DTGs} {n : Nat} (hc : X.calm = true) (h : DGs X es ss gs) (hn : (assignEach es X.env).length = n := by rfl) (hst : (assignEach es X.env).findIdx? (·.1) = none := by rfl) : DG X (.Tuple es k pos) ss (dgTup n gs) :=
  pg_to (pg_tup hc h hn hst) fun v σ H Q ⟨M, ρ, z, O, d, R, w, r, h, k⟩ => by
    cases d with
    | tup ds =>
      obtain ⟨a, vs, rfl, h1, h2⟩ := RepP.tup (z := z) (.inl r)
      exact ⟨a, vs, rfl, h1, by rw [← h2.length]; exact h.1, M, ρ, z, O, ds, R, w, h2, h.2, k⟩
    | _ => exact h.elim
def dAsg (t : DX D) (g : DTG) : DTS := fun R ρ z => t ρ z (fun d ρ' z' => g d ρ' z' R.nx) R.ex
theorem ds_asg {tg : Expr} {ss : List Nat} {t : DX D} {g : DTG} (he : DE X W e t) (hg : DG X tg ss g) (hs : swapsWithSole [tg] e pos.line X.env = pure false := by rfl) (hw : swappedStores [tg] e X.env = pure none := by rfl)
    (h1 : (assignEach [tg] X.env).map (·.2) = [assign tg X.env] := by rfl) : DS X W (.Assign [tg] e pos) (dAsg t g) := ps_to (ps_asg he hg hs hw h1) fun D σ H ⟨M, ρ, z, O, R, w, h, k⟩ =>
  ⟨M, ρ, z, O, _, R.ex, w, h, k.ex, fun d ρ' z' v H' O' hd g w' r => ⟨M, ρ', z', O', d, _, w', r, hd, fun ρ2 z2 σ2 H2 O2 h2 g2 w2 _ _ => k.nx ρ2 z2 σ2 H2 O2 h2 (g.toGo.trans g2.toGo) w2⟩⟩
def dSet (i : Nat) (t : DX D) : DTS := fun R ρ z => t ρ z (fun d ρ' z' => R.nx (ρ'.set i (.val d)) z') R.ex
theorem ds_set {i : Nat} {x : Str} {t : DX D} {pos' : Pos} (hN : X.N.Nodup) (hi : X.N[i]? = some x) (hx : Loc X.env.scope x) (he : DE X W e t) (hs : swapsWith e (some (.Name x pos')) pos.line X.env = pure false := by rfl)
    (hf : X.fn x = true ∨ X.env.scope.names.lookup x = some .local := by first | exact .inl rfl | exact .inr rfl | assumption) : DS X W (.Assign [.Name x pos'] e pos) (dSet i t) := ps_to (ps_set hN hi hx he hs hf) fun D σ H ⟨M, ρ, z, O, R, w, h, k⟩ =>
  ⟨M, ρ, z, O, _, R.ex, w, h, k.ex, fun d ρ' z' v H' O' hd g w' r => k.nx _ z' _ H' _ hd (g.trans .off).toGo (w'.set i r)⟩
/-! ### own lists -/
theorem NN.on {M : Addr → Prop} {z : Z} {O : Nat → Option Addr} {i : Nat} {p a : Addr} (h : NN M z (fun j => if j = i then some p else O j) a) : NN M z O a ∨ a = p := by
  rcases h with h | h | ⟨j, h⟩
  · exact .inl (.inl h)
  · exact .inl (.inr (.inl h))
  · replace h : (if j = i then some p else O j) = some a := h
    by_cases hj : j = i
    · rw [if_pos hj] at h; cases h; exact .inr rfl
    · rw [if_neg hj] at h; exact .inl (.inr (.inr ⟨j, h⟩))
/-- slot i takes what is new at p -/
theorem Wd.seto {K : PySem.W.Frag} {M : Addr → Prop} {H H' : Hp} {σ : L2.St} {ρ : List Sl} {z : Z} {O : Nat → Option Addr} (w : Wd K M H σ ρ z O) (i : Nat) (hi : i < ρ.length) {p : Addr} (hp : H p = none) (sm : Same H H') {s : Sl}
    (hp' : H' p ≠ none) (hs : SlotOk K (NN M z fun j => if j = i then some p else O j) H' (some (.ref p)) s (some p)) :
    Wd K M H' (σ.set i (some (.ref p))) (ρ.set i s) z (fun j => if j = i then some p else O j) ∧ Go M H z O H' z (fun j => if j = i then some p else O j) := by
  have al : ∀ a, H a ≠ none → H' a ≠ none := fun a h => by
    cases e : H a with
    | none => exact absurd e h
    | some o => rw [sm a o e]; exact Option.some_ne_none _
  have nn : ∀ a, NN M z O a → a ≠ p := fun a h e => w.alloc a h (by rw [e]; exact hp)
  have g : Go M H z O H' z (fun j => if j = i then some p else O j) := ⟨fun a o h _ => sm a o h, fun a o _ h => sm a o h, fun a h => by
    rcases h.on with q | q
    · exact .inl q
    · exact .inr (by rw [q]; exact hp), fun a h => .inl h, al⟩
  refine ⟨⟨by rw [List.length_set, List.length_set]; exact w.len, fun a h => al a (w.al a h), fun a h => (w.pot a h).to fun o q => sm a o q, w.pm, fun j a h => ?_, fun j s' h => ?_, fun j h => ?_⟩, g⟩
  · replace h : (if j = i then some p else O j) = some a := h
    by_cases hj : j = i
    · subst hj
      rw [if_pos rfl] at h
      cases h
      refine ⟨fun q => nn p (.inl q) rfl, fun q => nn p (.inr (.inl q)) rfl, hp', fun l e => ?_⟩
      replace e : (if l = j then some p else O l) = some p := e
      by_cases hl : l = j
      · exact hl
      · rw [if_neg hl] at e; exact absurd rfl (nn p (.inr (.inr ⟨l, e⟩)))
    · rw [if_neg hj] at h
      obtain ⟨h1, h2, h3, h4⟩ := w.ow j a h
      refine ⟨h1, h2, al a h3, fun l e => ?_⟩
      replace e : (if l = i then some p else O l) = some a := e
      by_cases hl : l = i
      · rw [if_pos hl] at e; cases e; exact absurd rfl (nn p (.inr (.inr ⟨j, h⟩)))
      · rw [if_neg hl] at e; exact h4 l e
  · by_cases hj : j = i
    · subst hj
      rw [List.getElem?_set_self hi] at h
      cases h
      rw [List.getElem?_set_self (by rw [w.len]; exact hi)]
      show SlotOk _ _ _ _ _ (if j = j then some p else O j)
      rw [if_pos rfl]
      exact hs
    · rw [List.getElem?_set_ne (Ne.symm hj)] at h ⊢
      show SlotOk _ _ _ _ _ (if j = i then some p else O j)
      rw [if_neg hj]
      exact (w.sl j s' h).mono g.ext fun a o _ q => sm a o q
  · by_cases hj : j = i
    · subst hj
      rw [List.getElem?_set_self hi] at h; cases h
    · show (if j = i then some p else O j) = none
      rw [if_neg hj]
      refine w.out j ?_
      rw [List.getElem?_set_ne (Ne.symm hj)] at h; exact h
def dOwn (i : Nat) (t : DX (List D)) : DTS := fun R ρ z => t ρ z (fun ds ρ' z' => i < ρ'.length ∧ R.nx (ρ'.set i (.own ds)) z') R.ex
theorem own_step {K : PySem.W.Frag} {M : Addr → Prop} {H1 H' : Hp} {σ : L2.St} {ρ : List Sl} {z : Z} {O : Nat → Option Addr} (w : Wd K M H1 σ ρ z O) (i : Nat) (hi : i < ρ.length) {p : Addr} {ds : List D} {vs : List V} (hp : H1 p = none) (sm : Same H1 H')
    (e : H' p = some (.lst vs)) (r : Reps K (NN M z O) H1 ds vs) : Wd K M H' (σ.set i (some (.ref p))) (ρ.set i (.own ds)) z (fun j => if j = i then some p else O j) ∧ Go M H1 z O H' z (fun j => if j = i then some p else O j) := by
  refine w.seto i hi hp sm (by rw [e]; exact Option.some_ne_none _) ⟨p, vs, rfl, rfl, e, Reps.mono ⟨fun a o q _ => sm a o q, fun a q => ?_⟩ _ _ r⟩
  rcases q.on with q | q
  · exact .inl q
  · exact .inr (by rw [q]; exact hp)
theorem ds_own {i : Nat} {x : Str} {t : DX (List D)} {pos' : Pos} (hN : X.N.Nodup) (hi : X.N[i]? = some x) (hx : Loc X.env.scope x) (he : DN X W e t) (hs : swapsWith e (some (.Name x pos')) pos.line X.env = pure false := by rfl)
    (hf : X.fn x = true ∨ X.env.scope.names.lookup x = some .local := by first | exact .inl rfl | exact .inr rfl | assumption) : DS X W (.Assign [.Name x pos'] e pos) (dOwn i t) := ps_to (ps_set hN hi hx he hs hf) fun D σ H ⟨M, ρ, z, O, R, w, h, k⟩ =>
  ⟨M, ρ, z, O, _, R.ex, w, h, k.ex, fun ds ρ' z' p vs H1 H' O' ⟨hl, hd⟩ g w' sm hp e r => by
    obtain ⟨w2, g2⟩ := own_step w' i hl hp sm e r
    exact k.nx _ z' _ H' _ hd (g.toGo.trans g2) w2⟩
/-- an own list written -/
theorem Wd.wrote {K : PySem.W.Frag} {M : Addr → Prop} {H : Hp} {σ : L2.St} {ρ : List Sl} {z : Z} {O : Nat → Option Addr} (w : Wd K M H σ ρ z O) {i : Nat} {a : Addr} (hO : O i = some a) {o : HO} {s : Sl} (hi : i < ρ.length)
    (hs : SlotOk K (NN M z O) (upd H a o) (σ[i]?.join) s (some a)) : Wd K M (upd H a o) σ (ρ.set i s) z O ∧ Go M H z O (upd H a o) z O := by
  obtain ⟨a1, a2, a3, a4⟩ := w.ow i a hO
  have al : ∀ b, H b ≠ none → upd H a o b ≠ none := fun b h => by
    by_cases q : b = a
    · rw [q, upd_same]; exact Option.some_ne_none _
    · rw [upd_ne q]; exact h
  have g : Go M H z O (upd H a o) z O := ⟨fun b u h n => by rw [upd_ne (fun q => n (.inr (.inr ⟨i, by rw [q]; exact hO⟩)))]; exact h, fun b u m h => by rw [upd_ne (fun q => a1 (by rw [← q]; exact m))]; exact h, fun b h => .inl h, fun b h => .inl h, al⟩
  refine ⟨⟨by rw [List.length_set]; exact w.len, fun b h => al b (w.al b h), fun b h => (w.pot b h).to fun u q => by rw [upd_ne (fun e => a2 (by rw [← e]; exact h))]; exact q, w.pm, fun j b h => ?_, fun j s' h => ?_, fun j h => ?_⟩, g⟩
  · obtain ⟨h1, h2, h3, h4⟩ := w.ow j b h
    exact ⟨h1, h2, al b h3, h4⟩
  · by_cases hj : j = i
    · subst hj
      rw [List.getElem?_set_self hi] at h
      cases h
      rw [hO]
      exact hs
    · rw [List.getElem?_set_ne (Ne.symm hj)] at h
      refine (w.sl j s' h).mono g.ext fun b u q e => ?_
      rw [upd_ne (fun z => hj (a4 j (by rw [← z]; exact q)))]; exact e
  · refine w.out j ?_
    rw [List.getElem?_eq_none_iff, List.length_set] at h
    exact List.getElem?_eq_none_iff.mpr h
theorem lt_of_get {α : Type} {l : List α} {i : Nat} {x : α} (h : l[i]? = some x) : i < l.length := (List.getElem?_eq_some_iff.mp h).1
def dAppend (i : Nat) (t : DX D) : DTS := fun R ρ z => ∃ ds0, ρ[i]? = some (.own ds0) ∧ t ρ z (fun d ρ' z' => match ρ'[i]? with | some (.own ds) => ds.length < sizeLine ∧ R.nx (ρ'.set i (.own (ds ++ [d]))) z' | _ => False) R.ex
theorem ds_append {i : Nat} {x : Str} {t : DX D} {apos cpos : Pos} {xpos : Pos} (hN : X.N[i]? = some x) (he : DE X W e t)
    (hv : Vis X.env.scope x := by first | exact Or.inl rfl | exact Or.inr (Or.inl rfl) | exact Or.inr (Or.inr rfl)) (hd : (x == ("__debug__" : Str)) = false := by decide)
    (hcd : (x == ("__classdict__" : Str)) = false := by decide)
    (hbase : attributeBase (.Name x xpos) "append" X.env (eval (.Name x xpos) X.env) = eval (.Name x xpos) X.env := by rfl)
    (hfew : ((backTo cpos (starEach [e] X.env)).all (fun x => !x.1) && (backToKw cpos (keywordEach [] X.env)).all (fun x => x.1.isSome)
      && decide (([e]).length + ([] : List Keyword).length + (if ([] : List Keyword).isEmpty then 0 else 1) < 30)) = true := by rfl)
    (hline : (apos.endLine == cpos.line) = true := by rfl) (hs : starEach [e] X.env = (false, eval e X.env) :: starEach [] X.env := by rfl)
    (hsw : swapsWith (.Call (.Attribute (.Name x xpos) "append" apos) [e] [] cpos) none pos.line X.env = pure false := by rfl) :
    DS X W (.Expr (.Call (.Attribute (.Name x xpos) "append" apos) [e] [] cpos) pos) (dAppend i t) := by
  refine ps_to (ps_expr (pe_bm PySem.F.plainAttrs_list PySem.F.slot_list_append PySem.F.type_list_append mt_append (pe_var hN hv hd hcd) (pa_cons he pa_nil hs) hbase hfew hline hs (by rfl)) hsw) fun D σ H ⟨M, ρ, z, O, R, w, ⟨ds0, h0, h⟩, k⟩ => ?_
  obtain ⟨a0, vs0, q1, q2, q3, q4⟩ := w.sl i _ h0
  refine ⟨_, join_some q2, .inl ⟨rfl, _, SqL.of q3⟩, M, ρ, z, O, _, R.ex, w, h, k.ex, fun d ρ' z' v H' O' hd g w' r => ?_⟩
  have hd' : ∃ ds, ρ'[i]? = some (.own ds) ∧ ds.length < sizeLine ∧ R.nx (ρ'.set i (.own (ds ++ [d]))) z' := by
    split at hd
    · exact ⟨_, ‹_›, hd⟩
    · exact hd.elim
  obtain ⟨ds, e1, hl, hd'⟩ := hd'
  obtain ⟨a, vs, p1, p2, p3, p4⟩ := w'.sl i _ e1
  have ea : a = a0 := by rw [q2] at p2; cases p2; rfl
  subst ea
  refine ⟨a, vs, v, rfl, rfl, p3, by rw [← p4.length]; exact hl, ?_⟩
  have na : ∀ (b : Addr) (o : HO), H' b = some o → ¬ NN M z' O' b → (upd H' a (.lst (vs ++ [v]))) b = some o := fun b o e n => by rw [upd_ne (fun q => n (.inr (.inr ⟨i, by rw [q]; exact p1⟩)))]; exact e
  obtain ⟨w2, g2⟩ := w'.wrote p1 (o := .lst (vs ++ [v])) (s := .own (ds ++ [d])) (lt_of_get e1) ⟨a, vs ++ [v], rfl, p2, upd_same, Reps.mono ⟨na, fun b h => .inl h⟩ _ _ (p4.append (.cons r .nil))⟩
  exact k.nx _ z' σ _ O' hd' (g.toGo.trans g2) w2
/-- x op= e -/
def dAug (i : Nat) (f : Op2) (t : DX D) : DTS := fun R ρ z => ∃ x, ρ[i]? = some (.val x) ∧ t ρ z (fun y ρ' z' => f x y fun r => R.nx (ρ'.set i (.val r)) z') R.ex
theorem ds_aug {i : Nat} {x : Str} {t : DX D} {op : Operator} {f : Op2} {pos' : Pos} (hN : X.N.Nodup) (hi : X.N[i]? = some x) (hx : Loc X.env.scope x) (he : DP X W e t) (ho : OpR X (inplaceOp op) (OpU X.K f))
    (hf : X.fn x = true ∨ X.env.scope.names.lookup x = some .local := by first | exact .inl rfl | exact .inr rfl | assumption) : DS X W (.AugAssign (.Name x pos') op e pos) (dAug i f t) :=
  ps_to (ps_aug hN hi hx he (pip_of ho) hf) fun D σ H ⟨M, ρ, z, O, R, w, ⟨d0, h0, h⟩, k⟩ => by
    obtain ⟨q1, v, q2, q3⟩ := w.sl i _ h0
    refine ⟨v, join_some q2, M, ρ, z, O, _, R.ex, w, h, k.ex, fun y ρ' z' u H' O' hd g w' r => ?_⟩
    exact ⟨_, z', d0, y, _, w'.alloc, .inl (Rep.mono g.ext _ _ q3), r, hd, fun d v H2 hr s r2 => k.nx _ z' _ H2 _ hr (g.toGo.trans ((w'.grow s).2.trans .off).toGo) ((w'.grow s).1.set i r2)⟩
def iaddD : Op2
  | .int i, .int j, k => k (.int (i + j))
  | .str i, .str j, k => i.length + j.length ≤ sizeLine ∧ k (.str (i ++ j))
  | _, _, _ => False
theorem id_add : OpR X (inplaceOp .Add) (OpU X.K iaddD) := by
  rintro pins s σ H x y v u Q I rx ry ⟨N, z, d1, d2, R, al, r1, r2, h, k⟩
  unfold iaddD at h
  split at h
  · obtain rfl := r1.int; obtain rfl := r2.int
    exact iop_add pins s σ H _ _ v u Q I rx ry ⟨_, _, rfl, rfl, k _ _ H h same0 .i⟩
  · obtain rfl := r1.str; obtain rfl := r2.str
    exact iop_add_str pins s σ H _ _ v u Q I rx ry ⟨_, _, rfl, rfl, h.1, k _ _ H h.2 same0 .s⟩
  · exact h.elim
theorem id_sub : OpR X (inplaceOp .Sub) (OpU X.K subD) := by
  rintro pins s σ H x y v u Q I rx ry ⟨N, z, d1, d2, R, al, r1, r2, h, k⟩
  unfold subD at h
  split at h
  · obtain rfl := r1.int; obtain rfl := r2.int
    exact iop_sub pins s σ H _ _ v u Q I rx ry ⟨_, _, rfl, rfl, k _ _ H h same0 .i⟩
  · exact h.elim
def imulD : Op2
  | .int i, .int j, k => CMulW i j ∧ k (.int (i * j))
  | _, _, _ => False
theorem iop_mulW2 : OpR X (inplaceOp .Mult) (rI CMulW fun i j => .int (i * j)) := opI fun _ _ _ _ _ _ _ hc q => imul_int q hc.ok
theorem id_mul : OpR X (inplaceOp .Mult) (OpU X.K imulD) := by
  rintro pins s σ H x y v u Q I rx ry ⟨N, z, d1, d2, R, al, r1, r2, h, k⟩
  unfold imulD at h
  split at h
  · obtain rfl := r1.int; obtain rfl := r2.int
    exact iop_mulW2 pins s σ H _ _ v u Q I rx ry ⟨_, _, rfl, rfl, h.1, k _ _ H h.2 same0 .i⟩
  · exact h.elim
def ifdivD : Op2
  | .int i, .int j, k => CDivW i j ∧ k (.int (i / j))
  | _, _, _ => False
theorem iop_fdivW2 : OpR X (inplaceOp .FloorDiv) (rI CDivW fun i j => .int (i / j)) := opI fun i j _ _ _ _ _ hc q => by
  have h1 : (0 : Int) < j := hc.1
  exact ifloordiv_int (by omega) (by rw [Int.fdiv_eq_ediv_of_nonneg i (by omega)]; exact q) (.inl (PyProof.noPylong_of_log2 hc.2))
theorem id_fdiv : OpR X (inplaceOp .FloorDiv) (OpU X.K ifdivD) := by
  rintro pins s σ H x y v u Q I rx ry ⟨N, z, d1, d2, R, al, r1, r2, h, k⟩
  unfold ifdivD at h
  split at h
  · obtain rfl := r1.int; obtain rfl := r2.int
    exact iop_fdivW2 pins s σ H _ _ v u Q I rx ry ⟨_, _, rfl, rfl, h.1, k _ _ H h.2 same0 .i⟩
  · exact h.elim
/-- self.f = e, where self is being made -/
def dFldS (K : PySem.W.Frag) (i : Nat) (f : Str) (t : DX D) : DTS := fun R ρ z => t ρ z (fun d ρ' z' => match ρ'[i]? with
  | some (.obj x C ns ds) => AttrOk K C f ∧ ns.length < 1000 ∧ f ∉ ns ∧ R.nx (ρ'.set i (.obj x C (ns ++ [f]) (ds ++ [d]))) z'
  | _ => False) R.ex
theorem putF_new {f : Str} {v : V} : ∀ {ns : List Str} {vs : List V}, ns.length = vs.length → f ∉ ns → putF f v (ns.zip vs) = (ns ++ [f]).zip (vs ++ [v])
  | [], [], _, _ => rfl
  | n :: ns, w :: vs, hl, hn => by
    rw [List.zip_cons_cons]
    show (if n = f then _ else (n, w) :: putF f v (ns.zip vs)) = _
    rw [if_neg (fun e => hn (by rw [e]; exact List.mem_cons_self)), putF_new (by simpa using hl) (fun h => hn (List.mem_cons_of_mem _ h))]
    rfl
  | [], _ :: _, hl, _ => by simp at hl
  | _ :: _, [], hl, _ => by simp at hl
theorem ds_fldS {i : Nat} {x f : Str} {t : DX D} {xpos pos' : Pos} (hN : X.N[i]? = some x) (he : DE X W e t)
    (hsw : swapsWith e (some (.Attribute (.Name x xpos) f pos')) pos.line X.env = pure false)
    (hv : Vis X.env.scope x := by first | exact Or.inl rfl | exact Or.inr (Or.inl rfl) | exact Or.inr (Or.inr rfl)) (hd : (x == ("__debug__" : Str)) = false := by decide)
    (hcd : (x == ("__classdict__" : Str)) = false := by decide) : DS X W (.Assign [.Attribute (.Name x xpos) f pos'] e pos) (dFldS X.K i f t) := by
  refine ps_to (ps_fld (pe_var hN hv hd hcd) he hsw) fun D σ H ⟨M, ρ, z, O, R, w, h, k⟩ => ?_
  refine ⟨M, ρ, z, O, _, R.ex, w, h, k.ex, fun d ρ' z' v H' O' hd g w' r => ?_⟩
  have hd' : ∃ x' C ns ds, ρ'[i]? = some (.obj x' C ns ds) ∧ AttrOk X.K C f ∧ ns.length < 1000 ∧ f ∉ ns ∧ R.nx (ρ'.set i (.obj x' C (ns ++ [f]) (ds ++ [d]))) z' := by
    split at hd
    · exact ⟨_, _, _, _, ‹_›, hd⟩
    · exact hd.elim
  obtain ⟨x', C, ns, ds, e1, ⟨ac, an⟩, hl, hn, hd'⟩ := hd'
  obtain ⟨a, dx, vs, p1, p0, p2, p3, p4, p5⟩ := w'.sl i _ e1
  have lv : ns.length = vs.length := by rw [p4, p5.length]
  refine ⟨_, join_some p2, a, C, dx, _, rfl, p3, ac, an, by rw [List.length_zip]; omega, ?_⟩
  have na : ∀ (b : Addr) (o : HO), H' b = some o → ¬ NN M z' O' b → (upd H' a (.ins C dx (putF f v (ns.zip vs)))) b = some o := fun b o e n => by rw [upd_ne (fun q => n (.inr (.inr ⟨i, by rw [q]; exact p1⟩)))]; exact e
  obtain ⟨w2, g2⟩ := w'.wrote p1 (o := .ins C dx (putF f v (ns.zip vs))) (s := .obj x' C (ns ++ [f]) (ds ++ [d])) (lt_of_get e1)
    ⟨a, dx, vs ++ [v], rfl, p0, p2, by rw [putF_new lv hn, upd_same], by rw [List.length_append, List.length_append, p4]; rfl, Reps.mono ⟨na, fun b h => .inl h⟩ _ _ (p5.append (.cons r .nil))⟩
  exact k.nx _ z' σ _ O' hd' (g.toGo.trans g2) w2
/-- a, b = x, y -/
def dPar (i j : Nat) (t : DX (List D)) : DTS := fun R ρ z => t ρ z (fun ds ρ' z' => match ds with | [x, y] => R.nx ((ρ'.set i (.val x)).set j (.val y)) z' | _ => False) R.ex
theorem ds_par {i j : Nat} {x y : Str} {t : DX (List D)} {px py pt : Pos} {kt k2 pt2} (hc : X.calm = true) (hN : X.N.Nodup) (hi : X.N[i]? = some x) (hj : X.N[j]? = some y) (hij : i ≠ j)
    (hx : X.env.scope.names.lookup x = some .local) (hy : X.env.scope.names.lookup y = some .local) (ha : DAs X W [a, b] t)
    (hw : swappedStores [.Tuple [.Name x px, .Name y py] kt pt] (.Tuple [a, b] k2 pt2) X.env = pure (some [x, y]))
    (hs : swapsWithSole [.Tuple [.Name x px, .Name y py] kt pt] (.Tuple [a, b] k2 pt2) pos.line X.env = pure false := by rfl) :
    DS X W (.Assign [.Tuple [.Name x px, .Name y py] kt pt] (.Tuple [a, b] k2 pt2) pos) (dPar i j t) := ps_to (ps_par hc hN hi hj hij hx hy ha hw hs) fun D σ H ⟨M, ρ, z, O, R, w, h, k⟩ =>
  ⟨M, ρ, z, O, _, R.ex, w, h, k.ex, fun ds ρ' z' vs H' O' hd g w' r => by
    match ds, hd with
    | [d1, d2], hd =>
      replace r : Reps _ _ _ _ _ := r
      rw [Reps] at r
      obtain ⟨v, vr, rfl, r1, r⟩ := r
      rw [Reps] at r
      obtain ⟨u, vr, rfl, r2, r⟩ := r
      rw [Reps] at r
      subst r
      refine ⟨v, u, rfl, k.nx _ z' _ H' _ hd (g.trans (GoE.off.trans .off)).toGo ((w'.set i r1).set j (Rep.mono GoE.off.ext _ _ r2))⟩⟩
def dPar3 (i j l : Nat) (t : DX (List D)) : DTS := fun R ρ z => t ρ z (fun ds ρ' z' => match ds with | [x, y, u] => R.nx (((ρ'.set i (.val x)).set j (.val y)).set l (.val u)) z' | _ => False) R.ex
theorem ds_par3 {i j l : Nat} {x y zz : Str} {c : Expr} {t : DX (List D)} {px py pz pt : Pos} {kt k2 pt2} (hc : X.calm = true) (hN : X.N.Nodup) (hi : X.N[i]? = some x) (hj : X.N[j]? = some y) (hl : X.N[l]? = some zz) (hij : i ≠ j) (hil : i ≠ l) (hjl : j ≠ l)
    (hx : X.env.scope.names.lookup x = some .local) (hy : X.env.scope.names.lookup y = some .local) (hz : X.env.scope.names.lookup zz = some .local) (ha : DAs X W [a, b, c] t)
    (hw : swappedStores [.Tuple [.Name x px, .Name y py, .Name zz pz] kt pt] (.Tuple [a, b, c] k2 pt2) X.env = pure (some [x, y, zz]))
    (hs : swapsWithSole [.Tuple [.Name x px, .Name y py, .Name zz pz] kt pt] (.Tuple [a, b, c] k2 pt2) pos.line X.env = pure false := by rfl) :
    DS X W (.Assign [.Tuple [.Name x px, .Name y py, .Name zz pz] kt pt] (.Tuple [a, b, c] k2 pt2) pos) (dPar3 i j l t) := ps_to (ps_par3 hc hN hi hj hl hij hil hjl hx hy hz ha hw hs) fun D σ H ⟨M, ρ, z, O, R, w, h, k⟩ =>
  ⟨M, ρ, z, O, _, R.ex, w, h, k.ex, fun ds ρ' z' vs H' O' hd g w' r => by
    match ds, hd with
    | [d1, d2, d3], hd =>
      replace r : Reps _ _ _ _ _ := r
      rw [Reps] at r
      obtain ⟨v, vr, rfl, r1, r⟩ := r
      rw [Reps] at r
      obtain ⟨u, vr, rfl, r2, r⟩ := r
      rw [Reps] at r
      obtain ⟨q, vr, rfl, r3, r⟩ := r
      rw [Reps] at r
      subst r
      refine ⟨v, u, q, rfl, k.nx _ z' _ H' _ hd (g.trans (GoE.off.trans (GoE.off.trans .off))).toGo (((w'.set i r1).set j (Rep.mono GoE.off.ext _ _ r2)).set l (Rep.mono GoE.off.ext _ _ (Rep.mono GoE.off.ext _ _ r3)))⟩⟩
end
end Lay

set_option Elab.async false
set_option linter.all false
set_option maxRecDepth 100000
set_option maxHeartbeats 2000000
namespace Lay
open PySem PySem.Spec PyProof.Rows L2
/-! ### what is walked -/
def WalkD (K : PySem.W.Frag) (J : It) (ds : List D) (N : Addr → Prop) (H : Hp) : Prop := ∀ N' H', Ext N H N' H' → (∀ a, N' a → H' a ≠ none) →
  (∀ i, i < ds.length → J.go i H') ∧ J.stop ds.length H' ∧ ∀ i x H'' d, ds[i]? = some d → J.yld i H' x H'' → Same H' H'' ∧ Rep K N' H'' d x
def UI (K : PySem.W.Frag) (W : WX) (t : DX (List D)) : TI := fun σ H Rq => ∃ M ρ z O R RX, Wd K M H σ ρ z O ∧ t ρ z R RX ∧ XOk K M W H z O RX ∧
  ∀ ds ρ' z' H' O' J, R ds ρ' z' → GoE M H z O H' z' O' → Wd K M H' σ ρ' z' O' → WalkD K J ds (NN M z' O') H' → Rq J H'
def DI (X : Cx) (W : WX) (tg e : Expr) (t : DX (List D)) : Prop := PI X tg e (UI X.K W t)
section
variable {X : Cx} {W : WX} {e a b tg : Expr} {es : List Expr} {pos p : Pos} {K : PySem.W.Frag}
theorem pi_to {t t' : TI} (h : PI X tg e t) (i : ∀ σ H Q, t' σ H Q → t σ H Q) : PI X tg e t' := ⟨fun pins s σ H Q I q => h.run pins s σ H Q I (i σ H Q q)⟩
theorem walkd_lst {a : Addr} {ds : List D} {vs : List V} {N : Addr → Prop} {H : Hp} (h : LstAt K N H a vs) (r : Reps K N H ds vs) : WalkD K (Itl K a) ds N H := fun N' H' e al => by
  have h' : LstAt K N' H' a vs := by
    rcases h with ⟨n, h⟩ | h
    · exact .inl (e.rd n h)
    · exact .inr h
  have r' := Reps.mono e _ _ r
  refine ⟨fun i hi => ?_, ⟨vs, h'.sq, by rw [r'.length]; exact Nat.le_refl _⟩, fun i x H'' d hd y => ?_⟩
  · rw [r'.length] at hi
    exact ⟨vs, vs[i], h'.sq, List.getElem?_eq_getElem hi⟩
  · obtain ⟨rfl, y⟩ := y
    obtain ⟨v, e1, e2⟩ := r'.get hd
    have := y vs h'.sq
    rw [e1] at this
    cases this
    exact ⟨same0, e2⟩
theorem walkd_tup {a : Addr} {ds : List D} {vs : List V} {N : Addr → Prop} {H : Hp} (h : TupAt K N H a vs) (r : Reps K N H ds vs) : WalkD K (Itt K a) ds N H := fun N' H' e al => by
  have h' : TupAt K N' H' a vs := by
    rcases h with ⟨n, h⟩ | h
    · exact .inl (e.rd n h)
    · exact .inr h
  have r' := Reps.mono e _ _ r
  refine ⟨fun i hi => ?_, ⟨vs, h'.sq, by rw [r'.length]; exact Nat.le_refl _⟩, fun i x H'' d hd y => ?_⟩
  · rw [r'.length] at hi
    exact ⟨vs, vs[i], h'.sq, List.getElem?_eq_getElem hi⟩
  · obtain ⟨rfl, y⟩ := y
    obtain ⟨v, e1, e2⟩ := r'.get hd
    have := y vs h'.sq
    rw [e1] at this
    cases this
    exact ⟨same0, e2⟩
theorem walkd_enum {a : Addr} {ds : List D} {vs : List V} {N : Addr → Prop} {H : Hp} (h : LstAt K N H a vs) (r : Reps K N H ds vs) : WalkD K (Ite K a) (ds.mapIdx fun i d => .tup [.int i, d]) N H := fun N' H' e al => by
  have h' : LstAt K N' H' a vs := by
    rcases h with ⟨n, h⟩ | h
    · exact .inl (e.rd n h)
    · exact .inr h
  have r' := Reps.mono e _ _ r
  rw [List.length_mapIdx]
  refine ⟨fun i hi => ?_, ⟨vs, h'.sq, by rw [r'.length]; exact Nat.le_refl _⟩, fun i x H'' d hd y => ?_⟩
  · rw [r'.length] at hi
    exact ⟨vs, vs[i], h'.sq, List.getElem?_eq_getElem hi⟩
  · obtain ⟨T, v, rfl, hT, rfl, y⟩ := y
    rw [List.getElem?_mapIdx] at hd
    obtain ⟨d', e0, rfl⟩ := Option.map_eq_some_iff.mp hd
    obtain ⟨u, e1, e2⟩ := r'.get e0
    have := y vs h'.sq
    rw [e1] at this
    cases this
    exact ⟨same_new hT, Rep.tupNew al hT (same_new hT) upd_same (.cons .i (.cons e2 .nil))⟩
theorem zip_get {α β : Type} {xs : List α} {ys : List β} {i : Nat} {p : α × β} (h : (xs.zip ys)[i]? = some p) : xs[i]? = some p.1 ∧ ys[i]? = some p.2 := by
  have := List.getElem?_zip_eq_some.mp h
  exact this
def zipD (xs ys : List D) : List D := (xs.zip ys).map fun p => .tup [p.1, p.2]
theorem walkd_zip {a b : Addr} {ds es : List D} {vs ws : List V} {N : Addr → Prop} {H : Hp} (h : LstAt K N H a vs) (r : Reps K N H ds vs) (h2 : LstAt K N H b ws) (r2 : Reps K N H es ws) : WalkD K (Itz K a b) (zipD ds es) N H := fun N' H' e al => by
  have mv : ∀ {a : Addr} {vs : List V}, LstAt K N H a vs → LstAt K N' H' a vs := fun h => by
    rcases h with ⟨n, h⟩ | h
    · exact .inl (e.rd n h)
    · exact .inr h
  have h' := mv h
  have h2' := mv h2
  have r' := Reps.mono e _ _ r
  have r2' := Reps.mono e _ _ r2
  have wk := walk_zip (K := K) (a := a) (b := b) (xs := vs) (ys := ws) rfl
  have hl : (zipD ds es).length = min vs.length ws.length := by unfold zipD; rw [List.length_map, List.length_zip, r'.length, r2'.length]
  rw [hl]
  refine ⟨fun i hi => wk.goes i H' hi ⟨h'.sq, h2'.sq⟩, wk.stops H' ⟨h'.sq, h2'.sq⟩, fun i x H'' d hd y => ?_⟩
  have hi : i < min vs.length ws.length := by rw [← hl]; exact lt_of_get hd
  obtain ⟨T, u, w, rfl, hT, rfl, e1, e2⟩ := wk.yields i H' x H'' hi ⟨h'.sq, h2'.sq⟩ y
  unfold zipD at hd
  rw [List.getElem?_map] at hd
  obtain ⟨p, e0, rfl⟩ := Option.map_eq_some_iff.mp hd
  obtain ⟨q1, q2⟩ := zip_get e0
  obtain ⟨u', f1, f2⟩ := r'.get q1
  obtain ⟨w', f3, f4⟩ := r2'.get q2
  replace e1 : vs[i]? = some u := e1
  replace e2 : ws[i]? = some w := e2
  rw [f1] at e1; cases e1
  rw [f3] at e2; cases e2
  exact ⟨same_new hT, Rep.tupNew al hT (same_new hT) upd_same (.cons f2 (.cons f4 .nil))⟩
theorem walkd_zipT {a b : Addr} {ds es : List D} {vs ws : List V} {N : Addr → Prop} {H : Hp} (h : TupAt K N H a vs) (r : Reps K N H ds vs) (h2 : TupAt K N H b ws) (r2 : Reps K N H es ws) : WalkD K (RZ.ItzT K a b) (zipD ds es) N H := fun N' H' e al => by
  have mv : ∀ {a : Addr} {vs : List V}, TupAt K N H a vs → TupAt K N' H' a vs := fun h => by
    rcases h with ⟨n, h⟩ | h
    · exact .inl (e.rd n h)
    · exact .inr h
  have h' := mv h
  have h2' := mv h2
  have r' := Reps.mono e _ _ r
  have r2' := Reps.mono e _ _ r2
  have wk := walk_zipT (K := K) (a := a) (b := b) (xs := vs) (ys := ws) rfl
  have hl : (zipD ds es).length = min vs.length ws.length := by unfold zipD; rw [List.length_map, List.length_zip, r'.length, r2'.length]
  rw [hl]
  refine ⟨fun i hi => wk.goes i H' hi ⟨h'.sq, h2'.sq⟩, wk.stops H' ⟨h'.sq, h2'.sq⟩, fun i x H'' d hd y => ?_⟩
  have hi : i < min vs.length ws.length := by rw [← hl]; exact lt_of_get hd
  obtain ⟨T, u, w, rfl, hT, rfl, e1, e2⟩ := wk.yields i H' x H'' hi ⟨h'.sq, h2'.sq⟩ y
  unfold zipD at hd
  rw [List.getElem?_map] at hd
  obtain ⟨p, e0, rfl⟩ := Option.map_eq_some_iff.mp hd
  obtain ⟨q1, q2⟩ := zip_get e0
  obtain ⟨u', f1, f2⟩ := r'.get q1
  obtain ⟨w', f3, f4⟩ := r2'.get q2
  replace e1 : vs[i]? = some u := e1
  replace e2 : ws[i]? = some w := e2
  rw [f1] at e1; cases e1
  rw [f3] at e2; cases e2
  exact ⟨same_new hT, Rep.tupNew al hT (same_new hT) upd_same (.cons f2 (.cons f4 .nil))⟩
theorem lstAt_of {N : Addr → Prop} {H : Hp} {ds : List D} {v : V} (r : Rep K N H (.lst ds) v) : ∃ a vs, v = .ref a ∧ LstAt K N H a vs ∧ Reps K N H ds vs := by
  rw [Rep] at r
  obtain ⟨a, vs, h1, h2, h3, h4⟩ := r
  exact ⟨a, vs, h1, .inl ⟨h2, .inl h3⟩, h4⟩
theorem rolAt_of {N : Addr → Prop} {H : Hp} {ds : List D} {v : V} (r : Rep K N H (.rol ds) v) : ∃ a vs, v = .ref a ∧ LstAt K N H a vs ∧ Reps K N H ds vs := by rwa [Rep] at r
theorem tupAt_of {N : Addr → Prop} {H : Hp} {ds : List D} {v : V} (r : Rep K N H (.tup ds) v) : ∃ a vs, v = .ref a ∧ TupAt K N H a vs ∧ Reps K N H ds vs := by rwa [Rep] at r
/-- a list, a tuple, a text, whatever it is -/
def iAny (K : PySem.W.Frag) (tl : TE) : TI := fun σ H R => tl σ H fun x H1 => (∃ a, x = .ref a ∧ (∃ xs, SqL K H1 a xs) ∧ R (Itl K a) H1) ∨ (∃ a, x = .ref a ∧ (∃ xs, SqT K H1 a xs) ∧ R (Itt K a) H1) ∨ ∃ z, x = .str z ∧ R (Its z) H1
theorem pi_any {l : Expr} {tl : TE} (hl : PE X l tl) : PI X tg l (iAny X.K tl) := by
  refine ⟨fun pins s σ H R I h => ?_⟩
  refine thn (hl.run pins s σ H _ I h) fun v s1 ⟨x, H1, I1, r1, q1⟩ => ?_
  rcases q1 with ⟨a, rfl, ⟨xs, hq⟩, q⟩ | ⟨a, rfl, ⟨xs, hq⟩, q⟩ | ⟨y, rfl, q⟩
  · cases r1
    obtain ⟨its, rv, p, hz⟩ := I1.list hq
    refine wpAny_pyIter_list p.isList ?_
    refine ⟨s1.heap.objs.size, [s1.heap.objs.size], _, _, H1, rfl, I1.kept (t' := s1.toks) fun b o e => Heap.get?_push_of_some _ e, turn_list a _, ⟨_, Heap.get?_push_size _ rfl, rfl, rfl⟩, fun b hb => ?_, q⟩
    have e : b = s1.heap.objs.size := by simpa using hb
    subst e
    exact I1.fpOk (Nat.le_refl _) (I1.hok.fresh (Nat.le_refl _))
  · cases r1
    obtain ⟨its, rv, p, hz⟩ := I1.tuple hq
    refine wpAny_pyIter_tuple (show s1.heap.IsTuple a its.toArray from p) ?_
    refine ⟨s1.heap.objs.size, [s1.heap.objs.size], _, _, H1, rfl, I1.kept (t' := s1.toks) fun b o e => Heap.get?_push_of_some _ e, turn_tuple a _, ⟨_, Heap.get?_push_size _ rfl, rfl, rfl⟩, fun b hb => ?_, q⟩
    have e : b = s1.heap.objs.size := by simpa using hb
    subst e
    exact I1.fpOk (Nat.le_refl _) (I1.hok.fresh (Nat.le_refl _))
  · obtain ⟨t, rfl⟩ := r1
    cases ha : y.cps.all (· < 128)
    · exact wpAny_pyIter_wide ha (pi_one (tk := s1.toks) I1 _ (turn_str _ y t "str_iterator" (.inr rfl)) ⟨_, Heap.get?_push_size _ rfl, rfl, rfl⟩ q)
    · exact wpAny_pyIter_ascii ha (pi_one (tk := s1.toks) I1 _ (turn_str _ y t "str_ascii_iterator" (.inl rfl)) ⟨_, Heap.get?_push_size _ rfl, rfl, rfl⟩ q)
def signsD (z : Str) : List D := z.cps.toList.map fun c => .str ⟨#[c]⟩
def iterD : D → (List D → Prop) → Prop
  | .lst ds, k => k ds
  | .rol ds, k => k ds
  | .tup ds, k => k ds
  | .str z, k => k (signsD z)
  | _, _ => False
def dIt (t : DX D) : DX (List D) := fun ρ z R RX => t ρ z (fun d ρ' z' => iterD d fun ds => R ds ρ' z') RX
theorem di_any {t : DX D} (he : DE X W e t) : DI X W tg e (dIt t) := pi_to (pi_any he) fun σ H Q ⟨M, ρ, z, O, R, RX, w, h, x, k⟩ =>
  ⟨M, ρ, z, O, _, RX, w, h, x, fun d ρ' z' v H' O' hd g w' r => by
    cases d with
    | lst ds =>
      obtain ⟨a, vs, rfl, h1, h2⟩ := lstAt_of r
      exact .inl ⟨a, rfl, ⟨vs, h1.sq⟩, k ds ρ' z' H' O' _ hd g w' (walkd_lst h1 h2)⟩
    | rol ds =>
      obtain ⟨a, vs, rfl, h1, h2⟩ := rolAt_of r
      exact .inl ⟨a, rfl, ⟨vs, h1.sq⟩, k ds ρ' z' H' O' _ hd g w' (walkd_lst h1 h2)⟩
    | tup ds =>
      obtain ⟨a, vs, rfl, h1, h2⟩ := tupAt_of r
      exact .inr (.inl ⟨a, rfl, ⟨vs, h1.sq⟩, k ds ρ' z' H' O' _ hd g w' (walkd_tup h1 h2)⟩)
    | str s =>
      obtain rfl := RepP.str (z := z') (.inl r)
      refine .inr (.inr ⟨s, rfl, k _ ρ' z' H' O' _ hd g w' fun N' H2 e al => ?_⟩)
      have hl : (signsD s).length = s.cps.size := by unfold signsD; rw [List.length_map, Array.length_toList]
      rw [hl]
      refine ⟨fun i hi => hi, Nat.le_refl _, fun i x H3 d hd y => ?_⟩
      obtain ⟨rfl, c, e1, rfl⟩ := y
      unfold signsD at hd
      rw [List.getElem?_map, Array.getElem?_toList, e1] at hd
      cases hd
      exact ⟨same0, .s⟩
    | _ => exact hd.elim⟩
def enumD : List D → (List D → Prop) → Prop
  | [.lst ds], k => k (ds.mapIdx fun i d => .tup [.int i, d])
  | [.rol ds], k => k (ds.mapIdx fun i d => .tup [.int i, d])
  | _, _ => False
def dItA (f : List D → (List D → Prop) → Prop) (t : DX (List D)) : DX (List D) := fun ρ z R RX => t ρ z (fun ds ρ' z' => f ds fun es => R es ρ' z') RX
theorem reps1 {N : Addr → Prop} {H : Hp} {d : D} {vs : List V} (r : Reps K N H [d] vs) : ∃ v, vs = [v] ∧ Rep K N H d v := by
  rw [Reps] at r
  obtain ⟨v, q, rfl, r1, r⟩ := r
  rw [Reps] at r
  subst r
  exact ⟨v, rfl, r1⟩
theorem reps2 {N : Addr → Prop} {H : Hp} {d d2 : D} {vs : List V} (r : Reps K N H [d, d2] vs) : ∃ v v2, vs = [v, v2] ∧ Rep K N H d v ∧ Rep K N H d2 v2 := by
  rw [Reps] at r
  obtain ⟨v, q, rfl, r1, r⟩ := r
  obtain ⟨v2, rfl, r2⟩ := reps1 r
  exact ⟨v, v2, rfl, r1, r2⟩
theorem di_enum {tpos : Pos} {elts : List Expr} {kk : Nat} {t : DX (List D)} (hg : Gl X "enumerate") (hm : X.mg "enumerate" = none) (ha : DAs X W [e] t) (hs : starEach [e] X.env = [(false, eval e X.env)] := by rfl) :
    DI X W (.Tuple elts kk tpos) (.Call (.Name "enumerate" p) [e] [] pos) (dItA enumD t) := pi_to (pi_enum hg hm ha hs) fun σ H Q ⟨M, ρ, z, O, R, RX, w, h, x, k⟩ =>
  ⟨M, ρ, z, O, _, RX, w, h, x, fun ds ρ' z' vs H' O' hd g w' r => by
    unfold enumD at hd
    split at hd
    · obtain ⟨v, rfl, r1⟩ := reps1 r
      obtain ⟨a, ws, rfl, h1, h2⟩ := lstAt_of r1
      exact ⟨a, ws, rfl, h1.sq, k _ ρ' z' H' O' _ hd g w' (walkd_enum h1 h2)⟩
    · obtain ⟨v, rfl, r1⟩ := reps1 r
      obtain ⟨a, ws, rfl, h1, h2⟩ := rolAt_of r1
      exact ⟨a, ws, rfl, h1.sq, k _ ρ' z' H' O' _ hd g w' (walkd_enum h1 h2)⟩
    · exact hd.elim⟩
def zipF : List D → (List D → Prop) → Prop
  | [.lst xs, .lst ys], k => k (zipD xs ys)
  | [.tup xs, .tup ys], k => k (zipD xs ys)
  | _, _ => False
theorem di_zip {tpos : Pos} {elts : List Expr} {kk : Nat} {t : DX (List D)} (hg : Gl X "zip") (hm : X.mg "zip" = none) (ha : DAs X W [a, b] t)
    (hs : starEach [a, b] X.env = (false, eval a X.env) :: starEach [b] X.env := by rfl) (hpl : (backTo pos (starEach [b] X.env)).any (·.1) = false := by rfl) :
    DI X W (.Tuple elts kk tpos) (.Call (.Name "zip" p) [a, b] [] pos) (dItA zipF t) := pi_to (RZ.pi_zipA hg hm ha hs hpl) fun σ H Q ⟨M, ρ, z, O, R, RX, w, h, x, k⟩ =>
  ⟨M, ρ, z, O, _, RX, w, h, x, fun ds ρ' z' vs H' O' hd g w' r => by
    unfold zipF at hd
    split at hd
    · obtain ⟨v, v2, rfl, r1, r2⟩ := reps2 r
      obtain ⟨a, ws, rfl, h1, h2⟩ := lstAt_of r1
      obtain ⟨b, ws2, rfl, h3, h4⟩ := lstAt_of r2
      exact ⟨a, b, ws, ws2, rfl, .inl ⟨h1.sq, h3.sq, k _ ρ' z' H' O' _ hd g w' (walkd_zip h1 h2 h3 h4)⟩⟩
    · obtain ⟨v, v2, rfl, r1, r2⟩ := reps2 r
      obtain ⟨a, ws, rfl, h1, h2⟩ := tupAt_of r1
      obtain ⟨b, ws2, rfl, h3, h4⟩ := tupAt_of r2
      exact ⟨a, b, ws, ws2, rfl, .inr ⟨h1.sq, h3.sq, k _ ρ' z' H' O' _ hd g w' (walkd_zipT h1 h2 h3 h4)⟩⟩
    · exact hd.elim⟩
def rngD (lo : Int) (n : Nat) : List D := (List.range n).map fun i => .int (lo + (i : Nat))
theorem walkd_rng {lo : Int} {n : Nat} {N : Addr → Prop} {H : Hp} : WalkD K (Itr lo n) (rngD lo n) N H := fun N' H' e al => by
  have hl : (rngD lo n).length = n := by unfold rngD; rw [List.length_map, List.length_range]
  rw [hl]
  refine ⟨fun i hi => hi, Nat.le_refl _, fun i x H'' d hd y => ?_⟩
  obtain ⟨rfl, rfl⟩ := y
  unfold rngD at hd
  rw [List.getElem?_map] at hd
  obtain ⟨j, e0, rfl⟩ := Option.map_eq_some_iff.mp hd
  rw [List.getElem?_range (by have := lt_of_get e0; rwa [List.length_range] at this)] at e0
  cases e0
  exact ⟨same0, .i⟩
def rng1 : List D → (List D → Prop) → Prop
  | [.int j], k => -(2 ^ 62) ≤ j ∧ j < 2 ^ 62 ∧ k (rngD 0 j.toNat)
  | _, _ => False
def rng2 : List D → (List D → Prop) → Prop
  | [.int i, .int j], k => (-(2 ^ 62) ≤ i ∧ i < 2 ^ 62 ∧ -(2 ^ 62) ≤ j ∧ j < 2 ^ 62) ∧ k (rngD i (j - i).toNat)
  | _, _ => False
theorem di_range1 {t : DX (List D)} (hg : Gl X "range") (hm : X.mg "range" = none) (ha : DA X W [a] t) (hs : starEach [a] X.env = [(false, eval a X.env)] := by rfl) : DI X W tg (.Call (.Name "range" p) [a] [] pos) (dItA rng1 t) :=
  pi_to (pi_range1 hg hm ha hs) fun σ H Q ⟨M, ρ, z, O, R, RX, w, h, x, k⟩ => ⟨M, ρ, z, O, _, RX, w, h, x, fun ds ρ' z' vs H' O' hd g w' r => by
    unfold rng1 at hd
    split at hd
    · obtain ⟨v, rfl, r1⟩ := r.one
      obtain rfl := r1.int
      exact ⟨_, rfl, hd.1, hd.2.1, k _ ρ' z' H' O' _ hd.2.2 g w' walkd_rng⟩
    · exact hd.elim⟩
theorem di_range2 {t : DX (List D)} (hg : Gl X "range") (hm : X.mg "range" = none) (ha : DA X W [a, b] t) (hs : starEach [a, b] X.env = [(false, eval a X.env), (false, eval b X.env)] := by rfl) (hs2 : starEach [b] X.env = [(false, eval b X.env)] := by rfl) :
    DI X W tg (.Call (.Name "range" p) [a, b] [] pos) (dItA rng2 t) := pi_to (pi_range2 hg hm ha hs hs2) fun σ H Q ⟨M, ρ, z, O, R, RX, w, h, x, k⟩ => ⟨M, ρ, z, O, _, RX, w, h, x, fun ds ρ' z' vs H' O' hd g w' r => by
    unfold rng2 at hd
    split at hd
    · obtain ⟨v, v2, rfl, r1, r2⟩ := r.two
      obtain rfl := r1.int
      obtain rfl := r2.int
      exact ⟨_, _, rfl, hd.1, k _ ρ' z' H' O' _ hd.2 g w' walkd_rng⟩
    · exact hd.elim⟩
def rngC (lo c : Int) (n : Nat) : List D := (List.range n).map fun i => .int (lo + (i : Nat) * c)
theorem walkd_rngC {lo c : Int} {n : Nat} {N : Addr → Prop} {H : Hp} : WalkD K (Itc lo c n) (rngC lo c n) N H := fun N' H' e al => by
  have hl : (rngC lo c n).length = n := by unfold rngC; rw [List.length_map, List.length_range]
  rw [hl]
  refine ⟨fun i hi => hi, Nat.le_refl _, fun i x H'' d hd y => ?_⟩
  obtain ⟨rfl, rfl⟩ := y
  unfold rngC at hd
  rw [List.getElem?_map] at hd
  obtain ⟨j, e0, rfl⟩ := Option.map_eq_some_iff.mp hd
  rw [List.getElem?_range (by have := lt_of_get e0; rwa [List.length_range] at this)] at e0
  cases e0
  exact ⟨same0, .i⟩
/-- a range that goes down -/
def rng3 : List D → (List D → Prop) → Prop
  | [.int i, .int j, .int c], k => c = -1 ∧ (-(2 ^ 62) ≤ i ∧ i < 2 ^ 62 ∧ -(2 ^ 62) ≤ j ∧ j < 2 ^ 62) ∧ k (rngC i (-1) (i - j).toNat)
  | _, _ => False
theorem di_range3 {c : Expr} {t : DX (List D)} (hg : Gl X "range") (hm : X.mg "range" = none) (ha : DA X W [a, b, c] t) (hs : starEach [a, b, c] X.env = (false, eval a X.env) :: starEach [b, c] X.env := by rfl)
    (hpl : (backTo pos (starEach [b, c] X.env)).any (·.1) = false := by rfl) :
    DI X W tg (.Call (.Name "range" p) [a, b, c] [] pos) (dItA rng3 t) := pi_to (pi_range3 hg hm ha hs hpl) fun σ H Q ⟨M, ρ, z, O, R, RX, w, h, x, k⟩ => ⟨M, ρ, z, O, _, RX, w, h, x, fun ds ρ' z' vs H' O' hd g w' r => by
    unfold rng3 at hd
    split at hd
    · obtain ⟨v, vr, rfl, r1, r⟩ := r
      obtain ⟨v2, vr, rfl, r2, r⟩ := r
      obtain ⟨v3, vr, rfl, r3, r⟩ := r
      obtain rfl := r1.int
      obtain rfl := r2.int
      obtain rfl := r3.int
      obtain ⟨rfl, hb, hd⟩ := hd
      cases r
      exact ⟨_, _, _, _, rfl, RgC.neg hb.1 hb.2.1 hb.2.2.1 hb.2.2.2, k _ ρ' z' H' O' _ hd g w' walkd_rngC⟩
    · exact hd.elim⟩
/-! ### for, while -/
def forD (g : DTG) (tb : DTS) : List D → DEnds → List Sl → Z → Prop
  | [], R, ρ, z => R.nx ρ z
  | d :: ds, R, ρ, z => ∃ N : List Sl → Z → Prop, (∀ ρ z, N ρ z → forD g tb ds R ρ z) ∧ g d ρ z (fun ρ1 z1 => tb { R with nx := N, ct := N, bk := R.nx } ρ1 z1)
def dFor (t : DX (List D)) (g : DTG) (tb : DTS) : DTS := fun R ρ z => t ρ z (fun ds ρ' z' => forD g tb ds R ρ' z') R.ex
theorem ds_for {iter : Expr} {ss : List Nat} {body : List Stmt} {t : DX (List D)} {g : DTG} {tb : DTS} (hp : PassesOwn (model X.prog X.w) X.A X.env X.xe) (hc : X.calm = true) (hi : DI X W tg iter t) (hg : DG X tg ss g) (hb : DSs X W body tb)
    (hs : ∀ x, foldedSetIterable iter X.env x = pure x := by intro _; rfl) : DS X W (.For tg iter body [] pos) (dFor t g tb) := ps_to (ps_for hp hc hi hg hb hs) fun D σ H ⟨M, ρ, z, O, R, w, h, k⟩ => by
  refine ⟨M, ρ, z, O, _, R.ex, w, h, k.ex, fun ds ρ1 z1 H1 O1 J hd g1 w1 wk => ?_⟩
  refine ⟨fun i m σ2 H2 => m = ds.length - i ∧ i ≤ ds.length ∧ ∃ ρ2 z2 O2, Wd X.K M H2 σ2 ρ2 z2 O2 ∧ Go M H1 z1 O1 H2 z2 O2 ∧ forD g tb (ds.drop i) R ρ2 z2, ⟨_, rfl, Nat.zero_le _, ρ1, z1, O1, w1, .refl, by rw [List.drop_zero]; exact hd⟩, ?_⟩
  rintro i m σ2 H2 ⟨rfl, hi, ρ2, z2, O2, w2, g2, hf⟩
  obtain ⟨c1, c2, c3⟩ := wk _ _ g2.ext w2.alloc
  rcases Nat.lt_or_ge i ds.length with hlt | hge
  · have ed : ds.drop i = ds[i] :: ds.drop (i + 1) := List.drop_eq_getElem_cons hlt
    rw [ed] at hf
    obtain ⟨N, hN, hg'⟩ := hf
    refine .inr ⟨c1 i hlt, fun σ3 H3 => ∃ ρ3 z3 O3, Wd X.K M H3 σ3 ρ3 z3 O3 ∧ Go M H1 z1 O1 H3 z3 O3 ∧ N ρ3 z3, fun σ3 H3 ⟨ρ3, z3, O3, w3, g3, n3⟩ => ⟨_, by omega, rfl, hlt, ρ3, z3, O3, w3, g3, hN ρ3 z3 n3⟩, fun x H3 y => ?_⟩
    obtain ⟨sm, rx⟩ := c3 i x H3 ds[i] (List.getElem?_eq_getElem hlt) y
    obtain ⟨w3, g3⟩ := w2.grow sm
    refine ⟨M, ρ2, z2, O2, _, _, w3, rx, hg', fun ρ4 z4 σ4 H4 O4 h4 g4 w4 _ _ => ⟨M, ρ4, z4, O4, _, w4, h4, ?_⟩⟩
    have gg : Go M H1 z1 O1 H4 z4 O4 := g2.trans (g3.toGo.trans g4.toGo)
    have kk := k.after (g1.toGo.trans gg)
    exact ⟨fun ρ' z' σ' H' O' h g w => ⟨ρ', z', O', w, gg.trans g, h⟩, fun ρ' z' σ' H' O' h g w => kk.nx ρ' z' σ' H' O' h g w, fun ρ' z' σ' H' O' h g w => ⟨ρ', z', O', w, gg.trans g, h⟩, kk.rt, kk.ex⟩
  · have e : i = ds.length := by omega
    subst e
    rw [List.drop_length] at hf
    exact .inl ⟨c2, k.nx ρ2 z2 σ2 H2 O2 hf (g1.toGo.trans g2) w2⟩
/-- by a word of the turn, the slots, the pot -/
theorem forD_inv {g : DTG} {tb : DTS} {ds : List D} {R : DEnds} {ρ : List Sl} {z : Z} (J : Nat → List Sl → Z → Prop) (h0 : J 0 ρ z)
    (hs : ∀ i d ρ z, ds[i]? = some d → J i ρ z → g d ρ z fun ρ1 z1 => tb { R with nx := J (i + 1), ct := J (i + 1), bk := R.nx } ρ1 z1) (hd : ∀ ρ z, J ds.length ρ z → R.nx ρ z) : forD g tb ds R ρ z := by
  suffices go : ∀ (es : List D) (i : Nat) (ρ : List Sl) (z : Z), ds.drop i = es → i ≤ ds.length → J i ρ z → forD g tb es R ρ z from go ds 0 ρ z (List.drop_zero ..) (Nat.zero_le _) h0
  intro es
  induction es with
  | nil =>
    intro i ρ z e hi j
    have : i = ds.length := by
      have := congrArg List.length e
      rw [List.length_drop, List.length_nil] at this
      omega
    subst this
    exact hd ρ z j
  | cons d es ih =>
    intro i ρ z e hi j
    have hlt : i < ds.length := by
      rcases Nat.lt_or_ge i ds.length with q | q
      · exact q
      · rw [List.drop_eq_nil_of_le q] at e; cases e
    rw [List.drop_eq_getElem_cons hlt] at e
    injection e with e1 e2
    exact ⟨J (i + 1), fun ρ z q => ih (i + 1) ρ z e2 hlt q, hs i d ρ z (by rw [List.getElem?_eq_getElem hlt, e1]) j⟩
def dWhile (c : DX Bool) (tb : DTS) : DTS := fun R ρ z => ∃ Wm : Nat → List Sl → Z → Prop, (∃ m, Wm m ρ z) ∧ ∀ m ρ z, Wm m ρ z →
  c ρ z (fun b ρ1 z1 => if b = true then ∃ N : List Sl → Z → Prop, (∀ ρ' z', N ρ' z' → ∃ m', m' < m ∧ Wm m' ρ' z') ∧ tb { R with nx := N, ct := N, bk := R.nx } ρ1 z1 else R.nx ρ1 z1) R.ex
theorem ds_while {c : Expr} {body : List Stmt} {tc : DX Bool} {tb : DTS} (hp : PassesOwn (model X.prog X.w) X.A X.env X.xe) (hc : DT X W c tc) (hb : DSs X W body tb) : DS X W (.While c body [] pos) (dWhile tc tb) := ps_to (ps_while hp hc hb) fun D σ H ⟨M, ρ, z, O, R, w, ⟨Wm, ⟨m0, h0⟩, h⟩, k⟩ => by
  refine ⟨fun m σ2 H2 => ∃ ρ2 z2 O2, Wd X.K M H2 σ2 ρ2 z2 O2 ∧ Go M H z O H2 z2 O2 ∧ Wm m ρ2 z2, ⟨m0, ρ, z, O, w, .refl, h0⟩, ?_⟩
  rintro m σ2 H2 ⟨ρ2, z2, O2, w2, g2, hm⟩
  refine ⟨M, ρ2, z2, O2, _, R.ex, w2, h m ρ2 z2 hm, k.ex.after g2, fun b ρ3 z3 c H3 O3 hb g3 w3 r => ?_⟩
  obtain rfl : c = b := r
  have gg : Go M H z O H3 z3 O3 := g2.trans g3.toGo
  have kk := k.after gg
  cases c with
  | true =>
    rw [if_pos rfl] at hb ⊢
    obtain ⟨N, hN, hb⟩ := hb
    refine ⟨fun σ4 H4 => ∃ ρ4 z4 O4, Wd X.K M H4 σ4 ρ4 z4 O4 ∧ Go M H z O H4 z4 O4 ∧ N ρ4 z4, fun σ4 H4 ⟨ρ4, z4, O4, w4, g4, n4⟩ => let ⟨m', q1, q2⟩ := hN ρ4 z4 n4; ⟨m', q1, ρ4, z4, O4, w4, g4, q2⟩, M, ρ3, z3, O3, _, w3, hb, ?_⟩
    exact ⟨fun ρ' z' σ' H' O' h g w => ⟨ρ', z', O', w, gg.trans g, h⟩, fun ρ' z' σ' H' O' h g w => kk.nx ρ' z' σ' H' O' h g w, fun ρ' z' σ' H' O' h g w => ⟨ρ', z', O', w, gg.trans g, h⟩, kk.rt, kk.ex⟩
  | false =>
    rw [if_neg Bool.false_ne_true] at hb ⊢
    exact kk.nx ρ3 z3 σ2 H3 O3 hb .refl w3
end
end Lay

set_option Elab.async false
set_option linter.all false
set_option maxRecDepth 100000
set_option maxHeartbeats 2000000
namespace Lay
open PySem PySem.Spec PyProof.Rows L2
/-! ### comprehensions -/
def wipeD (ρ : List Sl) : List Nat → List Sl
  | [] => ρ
  | v :: vs => (wipeD ρ vs).set v .any
theorem wipeD_len (ρ : List Sl) : ∀ vs : List Nat, (wipeD ρ vs).length = ρ.length
  | [] => rfl
  | v :: vs => by unfold wipeD; rw [List.length_set, wipeD_len ρ vs]
theorem wipeD_out {ρ : List Sl} {i : Nat} : ∀ {vs : List Nat}, i ∉ vs → (wipeD ρ vs)[i]? = ρ[i]?
  | [], _ => rfl
  | v :: vs, h => by
    unfold wipeD
    rw [List.getElem?_set_ne (fun e => h (by rw [e]; exact List.mem_cons_self)), wipeD_out (fun m => h (List.mem_cons_of_mem _ m))]
theorem wipeD_in {ρ : List Sl} {i : Nat} {s : Sl} : ∀ {vs : List Nat}, i ∈ vs → (wipeD ρ vs)[i]? = some s → s = .any
  | v :: vs, h, e => by
    unfold wipeD at e
    by_cases hv : v = i
    · subst hv
      rw [List.getElem?_set] at e
      rw [if_pos rfl] at e
      split at e
      · exact (Option.some.inj e).symm
      · cases e
    · rw [List.getElem?_set_ne hv] at e
      exact wipeD_in ((List.mem_cons.mp h).resolve_left (Ne.symm hv)) e
def offs (O : Nat → Option Addr) (vs : List Nat) : Nat → Option Addr := fun j => if j ∈ vs then none else O j
theorem NN.offs {M : Addr → Prop} {z : Z} {O : Nat → Option Addr} {vs : List Nat} {a : Addr} (h : NN M z (offs O vs) a) : NN M z O a := by
  rcases h with h | h | ⟨j, h⟩
  · exact .inl h
  · exact .inr (.inl h)
  · unfold Lay.offs at h
    split at h
    · cases h
    · exact .inr (.inr ⟨j, h⟩)
theorem Wd.wiped {K : PySem.W.Frag} {M : Addr → Prop} {H : Hp} {σ σ' : L2.St} {ρ : List Sl} {z : Z} {O : Nat → Option Addr} (w : Wd K M H σ ρ z O) {vs : List Nat} (hl : σ'.length = σ.length) (hσ : ∀ j, j ∉ vs → σ'[j]? = σ[j]?) :
    Wd K M H σ' (wipeD ρ vs) z (offs O vs) where
  len := by rw [wipeD_len, hl]; exact w.len
  al := w.al
  pot := w.pot
  pm := w.pm
  ow := fun j a h => by
    have h' : O j = some a := by
      unfold offs at h
      split at h
      · cases h
      · exact h
    obtain ⟨h1, h2, h3, h4⟩ := w.ow j a h'
    refine ⟨h1, h2, h3, fun l e => h4 l ?_⟩
    unfold offs at e
    split at e
    · cases e
    · exact e
  sl := fun j s h => by
    by_cases hj : j ∈ vs
    · obtain rfl := wipeD_in hj h
      show offs O vs j = none
      unfold offs; rw [if_pos hj]
    · rw [wipeD_out hj] at h
      have e : offs O vs j = O j := by unfold offs; rw [if_neg hj]
      rw [hσ j hj, e]
      exact (w.sl j s h).mono ⟨fun a o q _ => q, fun a q => .inl q.offs⟩ fun _ _ _ q => q
  out := fun j h => by
    unfold offs
    split
    · rfl
    · rename_i hj
      rw [wipeD_out hj] at h
      exact w.out j h
theorem GoE.offs {M : Addr → Prop} {H : Hp} {z : Z} {O : Nat → Option Addr} {vs : List Nat} : GoE M H z O H z (offs O vs) :=
  ⟨⟨fun a o h _ => h, fun a o _ h => h, fun a h => .inl h.offs, fun a h => .inl h, fun a h => h⟩, fun a o h _ => h⟩
/-- a hidden object more -/
def more (M : Addr → Prop) (p : Addr) : Addr → Prop := fun a => M a ∨ a = p
theorem NN.less {M : Addr → Prop} {z : Z} {O : Nat → Option Addr} {p a : Addr} (h : NN M z O a) : NN (more M p) z O a := by
  rcases h with h | h | h
  · exact .inl (.inl h)
  · exact .inr (.inl h)
  · exact .inr (.inr h)
theorem NN.more {M : Addr → Prop} {z : Z} {O : Nat → Option Addr} {p a : Addr} (h : NN (more M p) z O a) : NN M z O a ∨ a = p := by
  rcases h with (h | h) | h | h
  · exact .inl (.inl h)
  · exact .inr h
  · exact .inl (.inr (.inl h))
  · exact .inl (.inr (.inr h))
section
variable {K : PySem.W.Frag} {M : Addr → Prop} {H H' : Hp} {σ : L2.St} {ρ : List Sl} {z z' : Z} {O O' : Nat → Option Addr} {p : Addr} {o : HO}
theorem Wd.hide (w : Wd K M H σ ρ z O) (hp : H p = none) : Wd K (more M p) (upd H p o) σ ρ z O := by
  have al : ∀ a, H a ≠ none → upd H p o a ≠ none := fun a h => by
    by_cases q : a = p
    · rw [q, upd_same]; exact Option.some_ne_none _
    · rw [upd_ne q]; exact h
  have ne : ∀ a, H a ≠ none → a ≠ p := fun a h q => h (by rw [q]; exact hp)
  have ex : Ext (NN M z O) H (NN (more M p) z O) (upd H p o) := ⟨fun a u h _ => by rw [upd_ne (ne_of_none h hp)]; exact h, fun a h => by
    rcases h.more with q | q
    · exact .inl q
    · exact .inr (by rw [q]; exact hp)⟩
  refine ⟨w.len, fun a h => ?_, fun a h => (w.pot a h).to fun u q => by rw [upd_ne (ne_of_none q hp)]; exact q, fun a h m => ?_, fun i a h => ?_, fun i s h => (w.sl i s h).mono ex fun a u _ q => by rw [upd_ne (ne_of_none q hp)]; exact q, w.out⟩
  · rcases h with h | h
    · exact al a (w.al a h)
    · rw [h, upd_same]; exact Option.some_ne_none _
  · rcases m with m | m
    · exact w.pm a h m
    · exact ne a ((w.pot a h).ne) m
  · obtain ⟨h1, h2, h3, h4⟩ := w.ow i a h
    exact ⟨fun m => m.elim h1 (ne a h3), h2, al a h3, h4⟩
/-- without it -/
theorem Wd.bare (w : Wd K (more M p) H σ ρ z O) (np : ¬ M p) : Wd K M (fun a => if a = p then none else H a) σ ρ z O ∧ Ext (NN (more M p) z O) H (NN M z O) (fun a => if a = p then none else H a) := by
  have nn : ∀ a, NN M z O a → a ≠ p := fun a h e => by
    rcases h with h | h | ⟨i, h⟩
    · exact np (by rw [← e]; exact h)
    · exact w.pm a h (.inr e)
    · exact (w.ow i a h).1 (.inr e)
  have ex : Ext (NN (more M p) z O) H (NN M z O) (fun a => if a = p then none else H a) := ⟨fun a u h n => by
    have q : a ≠ p := fun e => n (.inl (.inr e))
    show (if a = p then none else H a) = some u
    rw [if_neg q]; exact h, fun a h => .inl h.less⟩
  refine ⟨⟨w.len, fun a h => ?_, fun a h => (w.pot a h).to fun u q => ?_, fun a h m => w.pm a h (.inl m), fun i a h => ?_, fun i s h => (w.sl i s h).mono ex fun a u e q => ?_, w.out⟩, ex⟩
  · show (if a = p then none else H a) ≠ none
    rw [if_neg (nn a (.inl h))]; exact w.al a (.inl h)
  · show (if a = p then none else H a) = some u
    rw [if_neg (nn a (.inr (.inl h)))]; exact q
  · obtain ⟨h1, h2, h3, h4⟩ := w.ow i a h
    refine ⟨fun m => h1 (.inl m), h2, ?_, h4⟩
    show (if a = p then none else H a) ≠ none
    rw [if_neg (nn a (.inr (.inr ⟨i, h⟩)))]; exact h3
  · show (if a = p then none else H a) = some u
    rw [if_neg (nn a (.inr (.inr ⟨i, e⟩)))]; exact q
/-- the hidden one written -/
theorem Wd.writeM (w : Wd K (more M p) H σ ρ z O) : Wd K (more M p) (upd H p o) σ ρ z O := by
  have al : ∀ a, H a ≠ none → upd H p o a ≠ none := fun a h => by
    by_cases q : a = p
    · rw [q, upd_same]; exact Option.some_ne_none _
    · rw [upd_ne q]; exact h
  have ex : Ext (NN (more M p) z O) H (NN (more M p) z O) (upd H p o) := ⟨fun a u h n => by rw [upd_ne (fun e => n (.inl (.inr e)))]; exact h, fun a h => .inl h⟩
  refine ⟨w.len, fun a h => al a (w.al a h), fun a h => (w.pot a h).to fun u q => by rw [upd_ne (fun e => w.pm a h (.inr e))]; exact q, w.pm, fun i a h => ?_, fun i s h => (w.sl i s h).mono ex fun a u e q => by rw [upd_ne (fun z => (w.ow i a e).1 (.inr z))]; exact q, w.out⟩
  obtain ⟨h1, h2, h3, h4⟩ := w.ow i a h
  exact ⟨h1, h2, al a h3, h4⟩
theorem GoE.low (g : GoE (more M p) H z O H' z' O') (w : Wd K (more M p) H' σ ρ z' O') (np : ¬ M p) : GoE M H z O H' z' O' := by
  refine ⟨⟨fun a u h n => ?_, fun a u m h => g.km a u (.inl m) h, fun a h => ?_, g.zp, g.al⟩, g.fx⟩
  · by_cases q : a = p
    · exact g.km a u (.inr q) h
    · exact g.st a u h fun m => m.more.elim n q
  · rcases g.nw a h.less with q | q
    · rcases q.more with q | q
      · exact .inl q
      · rcases h with h | h | ⟨i, h⟩
        · exact absurd (by rw [← q]; exact h) np
        · exact absurd (.inr q) (w.pm a h)
        · exact absurd (.inr q) (w.ow i a h).1
    · exact .inr q
/-- from ahead of its making -/
theorem GoE.upTo (g : GoE M H z O H' z' O') (hp : H p = none) (o : HO) : GoE M H z O (upd H' p o) z' O' := by
  have ne : ∀ a u, H a = some u → a ≠ p := fun a u h => ne_of_none h hp
  refine ⟨⟨fun a u h n => by rw [upd_ne (ne a u h)]; exact g.st a u h n, fun a u m h => by rw [upd_ne (ne a u h)]; exact g.km a u m h, g.nw, g.zp, fun a h => ?_⟩, fun a u h n => by rw [upd_ne (ne a u h)]; exact g.fx a u h n⟩
  by_cases q : a = p
  · rw [q, upd_same]; exact Option.some_ne_none _
  · rw [upd_ne q]; exact g.al a h
theorem GoE.without (g : GoE M H z O H' z' O') (hp : H p = none) : GoE M H z O (fun a => if a = p then none else H' a) z' O' := by
  have ne : ∀ a u, H a = some u → a ≠ p := fun a u h => ne_of_none h hp
  have e : ∀ a u, H a = some u → ∀ v, H' a = some v → (if a = p then none else H' a) = some v := fun a u h v q => by rw [if_neg (ne a u h)]; exact q
  refine ⟨⟨fun a u h n => e a u h _ (g.st a u h n), fun a u m h => e a u h _ (g.km a u m h), g.nw, g.zp, fun a h => ?_⟩, fun a u h n => e a u h _ (g.fx a u h n)⟩
  show (if a = p then none else H' a) ≠ none
  rw [if_neg (fun q => h (by rw [q]; exact hp))]
  exact g.al a h
end
abbrev noX : KX := fun _ _ _ _ _ => False
def lcD (g : DTG) (tt : DX Bool) (te : DX D) (vs : List Nat) : List D → List D → List Sl → Z → (List D → List Sl → Z → Prop) → Prop
  | [], acc, ρ, z, R => R acc ρ z
  | d :: ds, acc, ρ, z, R => ∃ S : List D → List Sl → Z → Prop, (∀ a ρ z, S a ρ z → lcD g tt te vs ds a ρ z R) ∧
    g d ρ z fun ρ1 z1 => tt ρ1 z1 (fun b ρ2 z2 => if b = true then te ρ2 z2 (fun y ρ3 z3 => acc.length < sizeLine ∧ S (acc ++ [y]) (wipeD ρ3 vs) z3) noX else S acc (wipeD ρ2 vs) z2) noX
def dLc (t : DX (List D)) (g : DTG) (tt : DX Bool) (te : DX D) (vs : List Nat) : DX (List D) := fun ρ z R RX => t ρ z (fun ds ρ' z' => lcD g tt te vs ds [] (wipeD ρ' vs) z' R) RX
abbrev W0 : WX := fun _ _ _ _ => False
theorem xok0 {K : PySem.W.Frag} {M : Addr → Prop} {H : Hp} {z : Z} {O : Nat → Option Addr} : XOk K M W0 H z O noX := fun _ _ _ _ _ _ _ _ _ h => h.elim
theorem wipe_same {σ σ2 : L2.St} {vs : List Nat} (hl : σ2.length = σ.length) (h : ∀ j, j ∉ vs → σ2[j]? = σ[j]?) : wipe σ2 vs = wipe σ vs := by
  refine List.ext_getElem? fun j => ?_
  by_cases hj : j ∈ vs
  · have e : ∀ τ : L2.St, (wipe τ vs)[j]? = if j < τ.length then some none else none := fun τ => by
      rcases Nat.lt_or_ge j τ.length with q | q
      · rw [if_pos q]
        cases e1 : (wipe τ vs)[j]? with
        | none => rw [List.getElem?_eq_none_iff, wipe_length] at e1; omega
        | some o =>
          cases o with
          | none => rfl
          | some x => exact absurd hj (wipe_some e1).2
      · rw [if_neg (by omega)]
        exact List.getElem?_eq_none (by rw [wipe_length]; exact q)
    rw [e, e, hl]
  · rw [wipe_out hj, wipe_out hj]; exact h j hj
section
variable {X : Cx} {W : WX} {elt tg iter : Expr} {ifs : List Expr} {pos : Pos}
theorem lc_ok {K : PySem.W.Frag} {t : DX (List D)} {g : DTG} {tt : DX Bool} {te : DX D} {ss vs : List Nat} {σ : L2.St} {H : Hp} {Q : VK} (hss : ∀ i ∈ ss, i ∈ vs) (h : UN K W (dLc t g tt te vs) σ H Q) :
    tLc (UI K W t) (UT K ss g) (UG K W0 relB tt) (UG K W0 (relE K) te) vs σ H Q := by
  obtain ⟨M, ρ, z, O, R, RX, w, h, x, k⟩ := h
  refine ⟨M, ρ, z, O, _, RX, w, h, x, fun ds ρ1 z1 H1 O1 J hd g1 w1 wk Dd hD => ?_⟩
  have np : ¬ M Dd := fun m => w1.al Dd m hD
  refine ⟨fun i m H2 => m = ds.length - i ∧ i ≤ ds.length ∧ ∃ acc as ρ2 z2 O2, Wd K (more M Dd) H2 σ ρ2 z2 O2 ∧ GoE M H1 z1 O1 H2 z2 O2 ∧ H2 Dd = some (.lst as) ∧ Reps K (NN (more M Dd) z2 O2) H2 acc as ∧ (∃ ρ0, ρ2 = wipeD ρ0 vs) ∧ lcD g tt te vs (ds.drop i) acc ρ2 z2 R,
    ⟨_, rfl, Nat.zero_le _, [], [], wipeD ρ1 vs, z1, offs O1 vs, (w1.wiped rfl fun _ _ => rfl).hide hD, GoE.upTo GoE.offs hD _, upd_same, .nil, ⟨ρ1, rfl⟩, by rw [List.drop_zero]; exact hd⟩, ?_⟩
  rintro i m H2 ⟨rfl, hi, acc, as, ρ2, z2, O2, w2, g2, eD, ra, ⟨ρ0, e0⟩, hf⟩
  have ex2 : Ext (NN M z1 O1) H1 (NN (more M Dd) z2 O2) H2 := ⟨g2.st, fun a h => by
    rcases h.more with q | q
    · exact g2.nw a q
    · exact .inr (by rw [q]; exact hD)⟩
  obtain ⟨c1, c2, c3⟩ := wk _ _ ex2 w2.alloc
  rcases Nat.lt_or_ge i ds.length with hlt | hge
  · have ed : ds.drop i = ds[i] :: ds.drop (i + 1) := List.drop_eq_getElem_cons hlt
    rw [ed] at hf
    obtain ⟨S, hS, hg⟩ := hf
    refine .inr ⟨c1 i hlt, fun H3 => ∃ acc as ρ3 z3 O3, Wd K (more M Dd) H3 σ ρ3 z3 O3 ∧ GoE M H1 z1 O1 H3 z3 O3 ∧ H3 Dd = some (.lst as) ∧ Reps K (NN (more M Dd) z3 O3) H3 acc as ∧ (∃ ρ0, ρ3 = wipeD ρ0 vs) ∧ S acc ρ3 z3,
      fun H3 ⟨acc, as, ρ3, z3, O3, q1, q2, q3, q4, q6, q5⟩ => ⟨_, by omega, rfl, hlt, acc, as, ρ3, z3, O3, q1, q2, q3, q4, q6, hS _ _ _ q5⟩, fun y H3 hy => ?_⟩
    obtain ⟨sm, rx⟩ := c3 i y H3 ds[i] (List.getElem?_eq_getElem hlt) hy
    obtain ⟨w3, g3⟩ := w2.grow sm
    have w3' : Wd K (more M Dd) H3 (wipe σ vs) (wipeD ρ2 vs) z2 (offs O2 vs) := w3.wiped (wipe_length ..) fun j hj => wipe_out hj
    have ewd : wipeD ρ2 vs = ρ2 := by
      rw [e0]
      refine List.ext_getElem? fun j => ?_
      by_cases hj : j ∈ vs
      · cases q : (wipeD ρ0 vs)[j]? with
        | none =>
          rw [List.getElem?_eq_none_iff] at q ⊢
          rw [wipeD_len]; exact q
        | some s =>
          obtain rfl := wipeD_in hj q
          cases q2 : (wipeD (wipeD ρ0 vs) vs)[j]? with
          | none => rw [List.getElem?_eq_none_iff, wipeD_len] at q2; have := lt_of_get q; omega
          | some s2 => obtain rfl := wipeD_in hj q2; rfl
      · rw [wipeD_out hj]
    rw [ewd] at w3'
    refine ⟨more M Dd, ρ2, z2, offs O2 vs, _, _, w3', Rep.mono GoE.offs.ext _ _ rx, hg, fun ρ4 z4 σ4 H4 O4 h4 g4 w4 l4 e4 => ?_⟩
    have hw4 : wipe σ4 vs = wipe (wipe σ vs) vs := wipe_same l4 fun j hj => e4 j fun m => hj (hss j m)
    have hww : wipe (wipe σ vs) vs = wipe σ vs := wipe_same (wipe_length ..) fun j hj => wipe_out hj
    refine ⟨hw4.trans hww, more M Dd, ρ4, z4, O4, _, noX, w4, h4, xok0, fun b ρ5 z5 c H5 O5 h5 g5 w5 r => ?_⟩
    obtain rfl : c = b := r
    have back : ∀ {H6 : Hp} {ρ6 : List Sl} {z6 : Z} {O6 : Nat → Option Addr}, Wd K (more M Dd) H6 σ4 ρ6 z6 O6 → Wd K (more M Dd) H6 σ (wipeD ρ6 vs) z6 (offs O6 vs) := fun w6 => w6.wiped (by rw [l4, wipe_length]) fun j hj => by
      rw [e4 j fun m => hj (hss j m), wipe_out hj]
    have gM : GoE (more M Dd) H2 z2 O2 H4 z4 O4 := g3.trans (GoE.offs.trans g4)
    cases c with
    | true =>
      rw [if_pos rfl] at h5 ⊢
      refine ⟨more M Dd, ρ5, z5, O5, _, noX, w5, h5, xok0, fun y2 ρ6 z6 v6 H6 O6 ⟨hl, h6⟩ g6 w6 r6 => ?_⟩
      have gT : GoE (more M Dd) H2 z2 O2 H6 z6 (offs O6 vs) := gM.trans (g5.trans (g6.trans .offs))
      have wT := back w6
      have eD6 : H6 Dd = some (.lst as) := gT.km Dd _ (.inr rfl) eD
      have ra6 : Reps K (NN (more M Dd) z6 (offs O6 vs)) H6 acc as := Reps.mono gT.ext _ _ ra
      refine ⟨as, eD6, by rw [← ra6.length]; exact hl, acc ++ [y2], as ++ [v6], _, z6, offs O6 vs, wT.writeM, (g2.trans (gT.low wT np)).upTo hD _, upd_same, ?_, ⟨ρ6, rfl⟩, h6⟩
      refine Reps.mono ⟨fun a u h n => by rw [upd_ne (fun e => n (.inl (.inr e)))]; exact h, fun a h => .inl h⟩ _ _ (ra6.append (.cons (Rep.mono GoE.offs.ext _ _ r6) .nil))
    | false =>
      rw [if_neg Bool.false_ne_true] at h5 ⊢
      have gT : GoE (more M Dd) H2 z2 O2 H5 z5 (offs O5 vs) := gM.trans (g5.trans .offs)
      have wT := back w5
      exact ⟨acc, as, _, z5, offs O5 vs, wT, g2.trans (gT.low wT np), gT.km Dd _ (.inr rfl) eD, Reps.mono gT.ext _ _ ra, ⟨ρ5, rfl⟩, h5⟩
  · have e : i = ds.length := by omega
    subst e
    rw [List.drop_length] at hf
    obtain ⟨wb, eb⟩ := w2.bare np
    refine .inl ⟨c2, k acc ρ2 z2 Dd as (fun a => if a = Dd then none else H2 a) H2 O2 hf (g1.trans (g2.without hD)) wb (fun a u q => ?_) (if_pos rfl) eD (Reps.mono eb _ _ ra)⟩
    replace q : (if a = Dd then none else H2 a) = some u := q
    by_cases hq : a = Dd
    · rw [if_pos hq] at q; cases q
    · rw [if_neg hq] at q; exact q
theorem dn_lc {scope : Scope} {own : List (Str × Nat)} {t : DX (List D)} {g : DTG} {tt : DX Bool} {te : DX D} {ss : List Nat} (hc : X.calm = true) (hN : X.N.Nodup) (hi : DI X W tg iter t) (ok : BlkOk X.N X.env.scope scope own)
    (hg : ∀ (s : Shared) (H : Hp) (C : Addr) (cl : List (Str × Addr)) (fp : List Addr), DG (X.blk s H scope (compEnvC scope cl C X.env) fp) tg ss g)
    (ht : ∀ (s : Shared) (H : Hp) (C : Addr) (cl : List (Str × Addr)) (fp : List Addr), PTs (X.blk s H scope (compEnvC scope cl C X.env) fp) ifs (UG X.K W0 relB tt))
    (he : ∀ (s : Shared) (H : Hp) (C : Addr) (cl : List (Str × Addr)) (fp : List Addr), DE (X.blk s H scope (compEnvC scope cl C X.env) fp) W0 elt te) (hss : ∀ i ∈ ss, i ∈ own.map (·.2) := by decide) (hs : ∀ x, foldedSetIterable iter X.env x = pure x := by intro _; rfl) :
    DN X W (.ListComp elt [⟨tg, iter, ifs, 0⟩] scope pos) (dLc t g tt te (own.map (·.2))) := pe_to (pe_lc (g := UT X.K ss g) (tt := UG X.K W0 relB tt) (te := UG X.K W0 (relE X.K) te) hc hN hi ok hg ht he hs) fun _ _ _ h => lc_ok hss h
def dYes : DX Bool := fun ρ z R RX => R true ρ z
theorem dts_nil : PTs X [] (UG X.K W0 relB dYes) := ⟨fun pins s σ H Q I ⟨M, ρ, z, O, R, RX, w, h, x, k⟩ => pts_nil.run pins s σ H Q I (k true ρ z true H O h .refl w rfl)⟩
theorem dts_one {c : Expr} {tt : DX Bool} (h : DT X W0 c tt) : PTs X [c] (UG X.K W0 relB tt) := pts_one h
theorem UN.let {K : PySem.W.Frag} {t : DX (List D)} {σ : L2.St} {H : Hp} {Q : VK} (h : UG K W (relE K) (dLet t) σ H Q) : UN K W t σ H Q :=
  let ⟨M, ρ, z, O, R, RX, w, h, x, k⟩ := h
  ⟨M, ρ, z, O, _, RX, w, h, x, fun ds ρ1 z1 p vs H1 H' O1 h1 g1 w1 s hp e r => k _ ρ1 z1 _ H' O1 h1 (g1.trans (w1.grow s).2) (w1.grow s).1 (Rep.lstNew w1.alloc hp s e r)⟩
/-- name = [..] on one line -/
theorem ds_setLc {i : Nat} {y : Str} {py : Pos} {scope : Scope} {own : List (Str × Nat)} {spos : Pos} {t : DX (List D)} {g : DTG} {tt : DX Bool} {te : DX D} {ss : List Nat} (hc : X.calm = true) (hN : X.N.Nodup) (hy : X.N[i]? = some y) (hyl : X.env.scope.names.lookup y = some .local)
    (hsw : swapsWith (.ListComp elt [⟨tg, iter, ifs, 0⟩] scope pos) (some (.Name y py)) spos.line X.env = pure true) (hi : DI X W tg iter t) (ok : BlkOk X.N X.env.scope scope own)
    (hg : ∀ (s : Shared) (H : Hp) (C : Addr) (cl : List (Str × Addr)) (fp : List Addr), DG (X.blk s H scope (compEnvC scope cl C X.env) fp) tg ss g)
    (ht : ∀ (s : Shared) (H : Hp) (C : Addr) (cl : List (Str × Addr)) (fp : List Addr), PTs (X.blk s H scope (compEnvC scope cl C X.env) fp) ifs (UG X.K W0 relB tt))
    (he : ∀ (s : Shared) (H : Hp) (C : Addr) (cl : List (Str × Addr)) (fp : List Addr), DE (X.blk s H scope (compEnvC scope cl C X.env) fp) W0 elt te) (hss : ∀ i ∈ ss, i ∈ own.map (·.2) := by decide) (hs : ∀ x, foldedSetIterable iter X.env x = pure x := by intro _; rfl) :
    DS X W (.Assign [.Name y py] (.ListComp elt [⟨tg, iter, ifs, 0⟩] scope pos) spos) (dSet i (dLet (dLc t g tt te (own.map (·.2))))) := ps_to (ps_setLc (i := i) (g := UT X.K ss g) (tt := UG X.K W0 relB tt) (te := UG X.K W0 (relE X.K) te) hc hN hy hyl hsw hi ok hg ht he hs) fun D σ H ⟨M, ρ, z, O, R, w, h, k⟩ =>
  lc_ok hss (UN.let ⟨M, ρ, z, O, _, R.ex, w, h, k.ex, fun d ρ' z' v H' O' hd g w' r => k.nx _ z' _ H' _ hd (g.trans .off).toGo (w'.set i r)⟩)
theorem ds_ownLc {i : Nat} {y : Str} {py : Pos} {scope : Scope} {own : List (Str × Nat)} {spos : Pos} {t : DX (List D)} {g : DTG} {tt : DX Bool} {te : DX D} {ss : List Nat} (hc : X.calm = true) (hN : X.N.Nodup) (hy : X.N[i]? = some y) (hyl : X.env.scope.names.lookup y = some .local)
    (hsw : swapsWith (.ListComp elt [⟨tg, iter, ifs, 0⟩] scope pos) (some (.Name y py)) spos.line X.env = pure true) (hi : DI X W tg iter t) (ok : BlkOk X.N X.env.scope scope own)
    (hg : ∀ (s : Shared) (H : Hp) (C : Addr) (cl : List (Str × Addr)) (fp : List Addr), DG (X.blk s H scope (compEnvC scope cl C X.env) fp) tg ss g)
    (ht : ∀ (s : Shared) (H : Hp) (C : Addr) (cl : List (Str × Addr)) (fp : List Addr), PTs (X.blk s H scope (compEnvC scope cl C X.env) fp) ifs (UG X.K W0 relB tt))
    (he : ∀ (s : Shared) (H : Hp) (C : Addr) (cl : List (Str × Addr)) (fp : List Addr), DE (X.blk s H scope (compEnvC scope cl C X.env) fp) W0 elt te) (hss : ∀ i ∈ ss, i ∈ own.map (·.2) := by decide) (hs : ∀ x, foldedSetIterable iter X.env x = pure x := by intro _; rfl) :
    DS X W (.Assign [.Name y py] (.ListComp elt [⟨tg, iter, ifs, 0⟩] scope pos) spos) (dOwn i (dLc t g tt te (own.map (·.2)))) := ps_to (ps_setLc (i := i) (g := UT X.K ss g) (tt := UG X.K W0 relB tt) (te := UG X.K W0 (relE X.K) te) hc hN hy hyl hsw hi ok hg ht he hs) fun D σ H ⟨M, ρ, z, O, R, w, h, k⟩ =>
  lc_ok hss ⟨M, ρ, z, O, _, R.ex, w, h, k.ex, fun ds ρ' z' p vs H1 H' O' ⟨hl, hd⟩ g w' sm hp e r => by
    obtain ⟨w2, g2⟩ := own_step w' i hl hp sm e r
    exact k.nx _ z' _ H' _ hd (g.toGo.trans g2) w2⟩
/-- by a word of the turn, what was made, the slots, the pot -/
theorem lcD_inv {g : DTG} {tt : DX Bool} {te : DX D} {vs : List Nat} {ds : List D} {ρ : List Sl} {z : Z} {R : List D → List Sl → Z → Prop} (J : Nat → List D → List Sl → Z → Prop) (h0 : J 0 [] ρ z)
    (hs : ∀ i d acc ρ z, ds[i]? = some d → J i acc ρ z → g d ρ z fun ρ1 z1 => tt ρ1 z1 (fun b ρ2 z2 => if b = true then te ρ2 z2 (fun y ρ3 z3 => acc.length < sizeLine ∧ J (i + 1) (acc ++ [y]) (wipeD ρ3 vs) z3) noX else J (i + 1) acc (wipeD ρ2 vs) z2) noX)
    (hd : ∀ acc ρ z, J ds.length acc ρ z → R acc ρ z) : lcD g tt te vs ds [] ρ z R := by
  suffices go : ∀ (es : List D) (i : Nat) (acc : List D) (ρ : List Sl) (z : Z), ds.drop i = es → i ≤ ds.length → J i acc ρ z → lcD g tt te vs es acc ρ z R from go ds 0 [] ρ z (List.drop_zero ..) (Nat.zero_le _) h0
  intro es
  induction es with
  | nil =>
    intro i acc ρ z e hi j
    have : i = ds.length := by
      have := congrArg List.length e
      rw [List.length_drop, List.length_nil] at this
      omega
    subst this
    exact hd acc ρ z j
  | cons d es ih =>
    intro i acc ρ z e hi j
    have hlt : i < ds.length := by
      rcases Nat.lt_or_ge i ds.length with q | q
      · exact q
      · rw [List.drop_eq_nil_of_le q] at e; cases e
    rw [List.drop_eq_getElem_cons hlt] at e
    injection e with e1 e2
    exact ⟨J (i + 1), fun a ρ z q => ih (i + 1) a ρ z e2 hlt q, hs i d acc ρ z (by rw [List.getElem?_eq_getElem hlt, e1]) j⟩
end
end Lay

set_option Elab.async false
set_option linter.all false
set_option maxRecDepth 100000
set_option maxHeartbeats 2000000
namespace Lay
open PySem PySem.Spec PyProof.Rows L2
/-! ### what a def promises, over trees -/
abbrev PX := Addr → List Str → List D → Z → Prop
abbrev KD' := D → List Sl → Z → Prop
abbrev PSp := List D → Z → (D → Z → Prop) → PX → Prop
abbrev O0 : Nat → Option Addr := fun _ => none
/-- from a call to its end -/
structure Fin (M : Addr → Prop) (H : Hp) (z : Z) (H' : Hp) (z' : Z) : Prop where
  pot : PotOk H' z'
  pm : ∀ a, z'.p = some a → ¬ M a
  zp : ∀ a, z'.p = some a → z.p = some a ∨ H a = none
  fx : ∀ a o, H a = some o → z.p ≠ some a → H' a = some o
  al : ∀ a, H a ≠ none → H' a ≠ none
def XPok (K : PySem.W.Frag) (M : Addr → Prop) (H : Hp) (z : Z) (E : XK) (RX : PX) : Prop := ∀ C ns ds z' od H', RX C ns ds z' → Fin M H z H' z' → ExAt K (NN M z' O0) H' od ns ds → E (.ref C) od H'
@[irreducible] def lift (K : PySem.W.Frag) (sp : PSp) : Sp := fun vs H Q E => ∃ M ds z R RX, (∀ a, M a → H a ≠ none) ∧ PotOk H z ∧ (∀ a, z.p = some a → ¬ M a) ∧ Reps K (NN M z O0) H ds vs ∧ sp ds z R RX ∧
  (∀ d z' v H', R d z' → Fin M H z H' z' → Rep K (NN M z' O0) H' d v → Q v H') ∧ XPok K M H z E RX
/-- as the caller's hidden ones: its own things too -/
def hid (M : Addr → Prop) (O : Nat → Option Addr) : Addr → Prop := fun a => M a ∨ ∃ i, O i = some a
theorem NN.hid {M : Addr → Prop} {z : Z} {O : Nat → Option Addr} {a : Addr} : NN (hid M O) z O0 a ↔ NN M z O a := by
  constructor
  · rintro ((h | h) | h | ⟨i, h⟩)
    · exact .inl h
    · exact .inr (.inr h)
    · exact .inr (.inl h)
    · cases h
  · rintro (h | h | h)
    · exact .inl (.inl h)
    · exact .inr (.inl h)
    · exact .inl (.inr h)
section
variable {K : PySem.W.Frag} {M : Addr → Prop} {H H' : Hp} {σ : L2.St} {ρ : List Sl} {z z' : Z} {O O' : Nat → Option Addr}
theorem ext_hid {z : Z} : Ext (NN (hid M O) z O0) H (NN M z O) H := ⟨fun a o h _ => h, fun a h => .inl (NN.hid.mpr h)⟩
theorem hid_ext {z : Z} : Ext (NN M z O) H (NN (hid M O) z O0) H := ⟨fun a o h _ => h, fun a h => .inl (NN.hid.mp h)⟩
theorem Wd.fin (w : Wd K M H σ ρ z O) (f : Fin (hid M O) H z H' z') : Wd K M H' σ ρ z' O ∧ GoE M H z O H' z' O := by
  have al : ∀ a, NN M z O a → z.p ≠ some a → ∃ o, H a = some o ∧ H' a = some o := fun a h n => by
    cases e : H a with
    | none => exact absurd e (w.alloc a h)
    | some o => exact ⟨o, rfl, f.fx a o e n⟩
  have nw : ∀ a, NN M z' O a → NN M z O a ∨ H a = none := fun a h => by
    rcases h with h | h | h
    · exact .inl (.inl h)
    · exact (f.zp a h).imp (fun q => .inr (.inl q)) id
    · exact .inl (.inr (.inr h))
  have g : GoE M H z O H' z' O := ⟨⟨fun a o h n => f.fx a o h fun q => n (.inr (.inl q)), fun a o m h => f.fx a o h fun q => w.pm a q m, nw, f.zp, f.al⟩, f.fx⟩
  refine ⟨⟨w.len, fun a h => f.al a (w.al a h), f.pot, fun a h m => f.pm a h (.inl m), fun i a h => ?_, fun i s h => (w.sl i s h).mono g.ext fun a o e q => ?_, w.out⟩, g⟩
  · obtain ⟨h1, h2, h3, h4⟩ := w.ow i a h
    exact ⟨h1, fun q => f.pm a q (.inr ⟨i, h⟩), f.al a h3, h4⟩
  · exact f.fx a o q (w.ow i a e).2.1
theorem Wd.pmh (w : Wd K M H σ ρ z O) : ∀ a, z.p = some a → ¬ hid M O a := fun a h m => by
  rcases m with m | ⟨i, m⟩
  · exact w.pm a h m
  · exact (w.ow i a m).2.1 h
theorem Wd.alh (w : Wd K M H σ ρ z O) : ∀ a, hid M O a → H a ≠ none := fun a m => by
  rcases m with m | ⟨i, m⟩
  · exact w.al a m
  · exact (w.ow i a m).2.2.1
end
section
variable {X : Cx} {W : WX} {e : Expr} {es : List Expr} {pos p : Pos} {CX : CXT} {j k n : Nat} {x : Str} {st : Stmt} {ps ks : List Str} {sp : PSp}
def dCall (sp : PSp) (t : DX (List D)) : DX D := fun ρ z R RX => t ρ z (fun ds ρ' z' => sp ds z' (fun d z2 => R d ρ' z2) (fun C ns es z2 => RX C ns es ρ' z2)) RX
/-- where nothing may be let out -/
abbrev noP : PX := fun _ _ _ _ => False
def dCall0 (sp : PSp) (t : DX (List D)) : DX D := fun ρ z R RX => t ρ z (fun ds ρ' z' => sp ds z' (fun d z2 => R d ρ' z2) noP) RX
theorem lift_at {K : PySem.W.Frag} {M : Addr → Prop} {H : Hp} {σ : L2.St} {ρ : List Sl} {z : Z} {O : Nat → Option Addr} {R : KD'} {RX : KX} {ds : List D} {vs : List V} {Q : VK} (w : Wd K M H σ ρ z O) (r : Reps K (NN M z O) H ds vs)
    (h : sp ds z (fun d z2 => R d ρ z2) (fun C ns es z2 => RX C ns es ρ z2)) (k : ∀ d z' v H', R d ρ z' → GoE M H z O H' z' O → Wd K M H' σ ρ z' O → Rep K (NN M z' O) H' d v → Q v H') (x : XOk K M W H z O RX) : lift K sp vs H Q (WE W σ) := by
  unfold lift
  refine ⟨hid M O, ds, z, _, _, w.alh, w.pot, w.pmh, Reps.mono hid_ext _ _ r, h, fun d z' v H' hd f r => ?_, fun C ns es z' od H' hx f ex => ?_⟩
  · obtain ⟨w', g'⟩ := w.fin f
    exact k d z' v H' hd g' w' (Rep.mono ext_hid _ _ r)
  · obtain ⟨w', g'⟩ := w.fin f
    exact x C ns es ρ z' od H' O σ hx g'.toGo w' (ex.mono ext_hid)
theorem lift_at0 {K : PySem.W.Frag} {M : Addr → Prop} {H : Hp} {σ : L2.St} {ρ : List Sl} {z : Z} {O : Nat → Option Addr} {R : KD'} {ds : List D} {vs : List V} {Q : VK} {E : XK} (w : Wd K M H σ ρ z O) (r : Reps K (NN M z O) H ds vs)
    (h : sp ds z (fun d z2 => R d ρ z2) noP) (k : ∀ d z' v H', R d ρ z' → GoE M H z O H' z' O → Wd K M H' σ ρ z' O → Rep K (NN M z' O) H' d v → Q v H') : lift K sp vs H Q E := by
  unfold lift
  refine ⟨hid M O, ds, z, _, _, w.alh, w.pot, w.pmh, Reps.mono hid_ext _ _ r, h, fun d z' v H' hd f r => ?_, fun C ns es z' od H' hx f ex => hx.elim⟩
  obtain ⟨w', g'⟩ := w.fin f
  exact k d z' v H' hd g' w' (Rep.mono ext_hid _ _ r)
theorem UG.call {K : PySem.W.Frag} {t : DX (List D)} {σ : L2.St} {H : Hp} {Q : VK} (h : UG K W (relE K) (dCall sp t) σ H Q) : tCallS (lift K sp) (WE W) (UG K W (relEs K) t) σ H Q :=
  let ⟨M, ρ, z, O, R, RX, w, h, x, k⟩ := h
  ⟨M, ρ, z, O, _, RX, w, h, x, fun ds ρ1 z1 vs H1 O1 h1 g1 w1 r1 => lift_at w1 r1 h1 (fun d z' v H' hd g w r => k d ρ1 z' v H' O1 hd (g1.trans g) w r) (x.after g1.toGo)⟩
theorem UG.call0 {K : PySem.W.Frag} {t : DX (List D)} {σ : L2.St} {H : Hp} {Q : VK} {E : L2.St → XK} (h : UG K W (relE K) (dCall0 sp t) σ H Q) : tCallS (lift K sp) E (UG K W (relEs K) t) σ H Q :=
  let ⟨M, ρ, z, O, R, RX, w, h, x, k⟩ := h
  ⟨M, ρ, z, O, _, RX, w, h, x, fun ds ρ1 z1 vs H1 O1 h1 g1 w1 r1 => lift_at0 w1 r1 h1 (fun d z' v H' hd g w r => k d ρ1 z' v H' O1 hd (g1.trans g) w r)⟩
theorem Callee.dE {t : DX (List D)} (C : Callee X.prog X.w X.K X.mg X.base CX k x st ps (lift X.K sp)) (hG : Gl X x) (hr : Room j X.A) (hg : X.A.guards = some []) (hx : ∀ σ, PassesAt CX X σ (WE W σ)) (ha : DAs X W (e :: es) t) (hj : k ≤ j := by decide)
    (hdb : (x == ("__debug__" : Str)) = false := by decide) (he : starEach (e :: es) X.env = (false, eval e X.env) :: starEach es X.env := by rfl) (hpl : (backTo pos (starEach es X.env)).any (·.1) = false := by rfl) :
    DE X W (.Call (.Name x p) (e :: es) [] pos) (dCall sp t) := pe_to (C.callE hG hr hg hx ha hj hdb he hpl) fun _ _ _ h => h.call
theorem Callee.d0 {t : DX (List D)} {E : L2.St → XK} (C : Callee X.prog X.w X.K X.mg X.base CX k x st ps (lift X.K sp)) (hG : Gl X x) (hr : Room j X.A) (hg : X.A.guards = some []) (hx : ∀ σ, PassesAt CX X σ (E σ)) (ha : DAs X W (e :: es) t) (hj : k ≤ j := by decide)
    (hdb : (x == ("__debug__" : Str)) = false := by decide) (he : starEach (e :: es) X.env = (false, eval e X.env) :: starEach es X.env := by rfl) (hpl : (backTo pos (starEach es X.env)).any (·.1) = false := by rfl) :
    DE X W (.Call (.Name x p) (e :: es) [] pos) (dCall0 sp t) := pe_to (C.callE hG hr hg hx ha hj hdb he hpl) fun _ _ _ h => h.call0
end
end Lay

set_option Elab.async false
set_option linter.all false
set_option maxRecDepth 100000
set_option maxHeartbeats 2000000
namespace Lay
open PySem PySem.Spec PyProof.Rows L2
section
variable {X : Cx} {W : WX} {e o a b : Expr} {es : List Expr} {pos p apos : Pos} {CX : CXT} {j k n : Nat} {x m : Str} {st : Stmt} {ps ks : List Str} {sp : PSp} {kws : List Keyword} {C : Addr} {D' : Addr → FuncData → Prop}
  {g : List Value → List Value → List Value} {gV : List V → List V → List V} {gD : List D → List D → List D}
/-! ### keywords -/
/-- the same order of arguments on values and on trees -/
def KwD (n m : Nat) (gV : List V → List V → List V) (gD : List D → List D → List D) : Prop := ∀ (K : PySem.W.Frag) (N : Addr → Prop) (H : Hp) (ds es : List D) (vs ws : List V), ds.length = n → es.length = m → Reps K N H ds vs → Reps K N H es ws → Reps K N H (gD ds es) (gV vs ws)
def dCallKw (n m : Nat) (gD : List D → List D → List D) (sp : PSp) (t tk : DX (List D)) : DX D := fun ρ z R RX => t ρ z (fun ds ρ1 z1 => tk ρ1 z1 (fun es ρ2 z2 => ds.length = n ∧ es.length = m ∧ sp (gD ds es) z2 (fun d z3 => R d ρ2 z3) (fun C ns es z3 => RX C ns es ρ2 z3)) RX) RX
def dCallKw0 (n m : Nat) (gD : List D → List D → List D) (sp : PSp) (t tk : DX (List D)) : DX D := fun ρ z R RX => t ρ z (fun ds ρ1 z1 => tk ρ1 z1 (fun es ρ2 z2 => ds.length = n ∧ es.length = m ∧ sp (gD ds es) z2 (fun d z3 => R d ρ2 z3) noP) RX) RX
theorem UG.callKw0 {K : PySem.W.Frag} {t tk : DX (List D)} {nn mm : Nat} {σ : L2.St} {H : Hp} {Q : VK} {E : XK} (kd : KwD nn mm gV gD) (h : UG K W (relE K) (dCallKw0 nn mm gD sp t tk) σ H Q) : tKw nn mm (lift K sp) gV E (UG K W (relEs K) t) (UG K W (relEs K) tk) σ H Q :=
  let ⟨M, ρ, z, O, R, RX, w, h, x, k⟩ := h
  ⟨M, ρ, z, O, _, RX, w, h, x, fun ds ρ1 z1 vs H1 O1 h1 g1 w1 r1 => ⟨M, ρ1, z1, O1, _, RX, w1, h1, x.after g1.toGo, fun es ρ2 z2 ws H2 O2 ⟨l1, l2, h2⟩ g2 w2 r2 =>
    ⟨by rw [← Reps.length r1]; exact l1, by rw [← Reps.length r2]; exact l2, lift_at0 w2 (kd K _ _ ds es vs ws l1 l2 (Reps.mono g2.ext _ _ r1) r2) h2 (fun d z' v H' hd g w r => k d ρ2 z' v H' O2 hd (g1.trans (g2.trans g)) w r)⟩⟩⟩
theorem Callee.dkw {t tk : DX (List D)} (C : Callee X.prog X.w X.K X.mg X.base CX0 k x st ps (lift X.K sp)) (kd : KwD n ks.length gV gD) (hb : ∀ (f : Addr) (fd : FuncData), Fun X.K x x st f fd → KwB X.K fd ps n ks g gV) (hG : Gl X x) (hr : Room j X.A) (hg : X.A.guards = some [])
    (ha : DAs X W (e :: es) t) (hkw : DKw X W kws tk) (hj : k ≤ j := by decide) (hall : (backToKw pos (keywordEach kws X.env)).all (·.1.isSome) = true := by rfl) (hks : (backToKw pos (keywordEach kws X.env)).filterMap (·.1) = ks := by rfl)
    (hdb : (x == ("__debug__" : Str)) = false := by decide) (he : starEach (e :: es) X.env = (false, eval e X.env) :: starEach es X.env := by rfl)
    (hpl : ((backTo pos (starEach (e :: es) X.env)).any (·.1) || (backToKw pos (keywordEach kws X.env)).any (·.1.isNone)) = false := by rfl) :
    DE X W (.Call (.Name x p) (e :: es) kws pos) (dCallKw0 n ks.length gD sp t tk) := pe_to (C.kw hb hG hr hg ha hkw hj hall hks hdb he hpl) fun _ _ _ h => h.callKw0 kd
theorem Callee.dkw0 {tk : DX (List D)} (C : Callee X.prog X.w X.K X.mg X.base CX0 k x st ps (lift X.K sp)) (kd : KwD 0 ks.length gV gD) (hb : ∀ (f : Addr) (fd : FuncData), Fun X.K x x st f fd → KwB X.K fd ps 0 ks g gV) (hG : Gl X x) (hr : Room j X.A) (hg : X.A.guards = some [])
    (hkw : DKw X W kws tk) (hj : k ≤ j := by decide) (hall : (backToKw pos (keywordEach kws X.env)).all (·.1.isSome) = true := by rfl) (hks : (backToKw pos (keywordEach kws X.env)).filterMap (·.1) = ks := by rfl)
    (hdb : (x == ("__debug__" : Str)) = false := by decide) (hpl : ((backTo pos (starEach [] X.env)).any (·.1) || (backToKw pos (keywordEach kws X.env)).any (·.1.isNone)) = false := by rfl) :
    DE X W (.Call (.Name x p) [] kws pos) (dCallKw0 0 ks.length gD sp dNil tk) := pe_to (C.kw0 hb hG hr hg hkw hj hall hks hdb hpl) fun σ H Q h => by
  obtain ⟨M, ρ, z, O, R, RX, w, h, x, k⟩ := h
  refine ⟨M, ρ, z, O, _, RX, w, h, x, fun es ρ2 z2 ws H2 O2 ⟨l1, l2, h2⟩ g2 w2 r2 => ?_⟩
  exact ⟨rfl, by rw [← Reps.length r2]; exact l2, lift_at0 w2 (kd X.K _ _ [] es [] ws rfl l2 .nil r2) h2 (fun d z' v H' hd g w r => k d ρ2 z' v H' O2 hd (g2.trans g) w r)⟩
/-! ### methods -/
def dMeth (C : Addr) (m : Str) (sp : PSp) (to : DX D) (t : DX (List D)) : DX D := fun ρ z R RX => to ρ z (fun d ρ1 z1 => (∃ ns ds, d = .ins C ns ds ∧ m ∉ ns) ∧ t ρ1 z1 (fun es ρ2 z2 => sp (d :: es) z2 (fun r z3 => R r ρ2 z3) (fun C ns es z3 => RX C ns es ρ2 z3)) RX) RX
def dMeth0 (C : Addr) (m : Str) (sp : PSp) (to : DX D) (t : DX (List D)) : DX D := fun ρ z R RX => to ρ z (fun d ρ1 z1 => (∃ ns ds, d = .ins C ns ds ∧ m ∉ ns) ∧ t ρ1 z1 (fun es ρ2 z2 => sp (d :: es) z2 (fun r z3 => R r ρ2 z3) noP) RX) RX
theorem zip_lookup_none {α : Type} {m : Str} : ∀ {ns : List Str} {vs : List α}, m ∉ ns → (ns.zip vs).lookup m = none
  | [], _, _ => by simp
  | _ :: _, [], _ => by simp
  | n :: ns, v :: vs, h => by
    rw [List.zip_cons_cons, List.lookup_cons]
    have : (m == n) = false := by
      rw [beq_eq_false_iff_ne]
      intro q
      exact h (by rw [q]; exact List.mem_cons_self)
    rw [this]
    exact zip_lookup_none fun q => h (List.mem_cons_of_mem _ q)
theorem UG.meth {K : PySem.W.Frag} {to : DX D} {t : DX (List D)} {σ : L2.St} {H : Hp} {Q : VK} (h : UG K W (relE K) (dMeth C m sp to t) σ H Q) : tMethE C m (lift K sp) (WE W) (UG K W (relE K) to) (UG K W (relEs K) t) σ H Q := by
  obtain ⟨M, ρ, z, O, R, RX, w, h, x, k⟩ := h
  refine ⟨M, ρ, z, O, _, RX, w, h, x, fun d ρ1 z1 v H1 O1 ⟨⟨ns, ds, ed, hm⟩, h1⟩ g1 w1 r1 => ?_⟩
  have r1' := r1
  rw [ed] at r1'
  obtain ⟨a, dx, vs, rfl, q1, q2, q3⟩ := RepP.ins (z := z1) (.inl r1')
  exact ⟨a, dx, _, rfl, q1, zip_lookup_none hm, M, ρ1, z1, O1, _, RX, w1, h1, x.after g1.toGo, fun es ρ2 z2 ws H2 O2 h2 g2 w2 r2 =>
    lift_at w2 (.cons (Rep.mono g2.ext _ _ r1) r2) h2 (fun d z' v H' hd g w r => k d ρ2 z' v H' O2 hd (g1.trans (g2.trans g)) w r) (x.after (g1.trans g2).toGo)⟩
theorem UG.meth0 {K : PySem.W.Frag} {to : DX D} {t : DX (List D)} {σ : L2.St} {H : Hp} {Q : VK} {E : L2.St → XK} (h : UG K W (relE K) (dMeth0 C m sp to t) σ H Q) : tMethE C m (lift K sp) E (UG K W (relE K) to) (UG K W (relEs K) t) σ H Q := by
  obtain ⟨M, ρ, z, O, R, RX, w, h, x, k⟩ := h
  refine ⟨M, ρ, z, O, _, RX, w, h, x, fun d ρ1 z1 v H1 O1 ⟨⟨ns, ds, ed, hm⟩, h1⟩ g1 w1 r1 => ?_⟩
  have r1' := r1
  rw [ed] at r1'
  obtain ⟨a, dx, vs, rfl, q1, q2, q3⟩ := RepP.ins (z := z1) (.inl r1')
  exact ⟨a, dx, _, rfl, q1, zip_lookup_none hm, M, ρ1, z1, O1, _, RX, w1, h1, x.after g1.toGo, fun es ρ2 z2 ws H2 O2 h2 g2 w2 r2 =>
    lift_at0 w2 (.cons (Rep.mono g2.ext _ _ r1) r2) h2 (fun d z' v H' hd g w r => k d ρ2 z' v H' O2 hd (g1.trans (g2.trans g)) w r)⟩
theorem UG.nilS {K : PySem.W.Frag} {σ : L2.St} {H : Hp} {Q : List V → Hp → Prop} (h : UG K W (relEs K) dNil σ H Q) : tNil σ H Q :=
  let ⟨M, ρ, z, O, R, RX, w, h, x, k⟩ := h
  k [] ρ z [] H O h .refl w Reps.nil
variable {pl : Sem Bool}
theorem Method.dE {to : DX D} {t : DX (List D)} (M : Method X.prog X.w X.K X.mg X.base CX k C m D' ps (lift X.K sp)) (he : DE X W o to) (hr : Room j X.A) (hg : X.A.guards = some []) (hx : ∀ σ, PassesAt CX X σ (WE W σ)) (ha : DAs X W (e :: es) t) (hj : k ≤ j := by decide)
    (hst : starEach (e :: es) X.env = (false, eval e X.env) :: starEach es X.env := by rfl) (hpl : (backTo pos (starEach es X.env)).any (·.1) = false := by rfl)
    (ht : eval (.Call (.Attribute o m apos) (e :: es) [] pos) X.env = (do
      let ov ← eval o X.env
      standAt apos.atName
      let (f, first) ← holding [ov] (getMethod ov m pl)
      callWith pos f first (backTo pos (starEach (e :: es) X.env)) (backToKw pos (keywordEach [] X.env))) := by rfl) :
    DE X W (.Call (.Attribute o m apos) (e :: es) [] pos) (dMeth C m sp to t) := pe_to (M.methE he hr hg hx ha hj hst hpl ht) fun _ _ _ h => h.meth
theorem Method.d0 {to : DX D} {t : DX (List D)} {E : L2.St → XK} (M : Method X.prog X.w X.K X.mg X.base CX k C m D' ps (lift X.K sp)) (he : DE X W o to) (hr : Room j X.A) (hg : X.A.guards = some []) (hx : ∀ σ, PassesAt CX X σ (E σ)) (ha : DAs X W (e :: es) t) (hj : k ≤ j := by decide)
    (hst : starEach (e :: es) X.env = (false, eval e X.env) :: starEach es X.env := by rfl) (hpl : (backTo pos (starEach es X.env)).any (·.1) = false := by rfl)
    (ht : eval (.Call (.Attribute o m apos) (e :: es) [] pos) X.env = (do
      let ov ← eval o X.env
      standAt apos.atName
      let (f, first) ← holding [ov] (getMethod ov m pl)
      callWith pos f first (backTo pos (starEach (e :: es) X.env)) (backToKw pos (keywordEach [] X.env))) := by rfl) :
    DE X W (.Call (.Attribute o m apos) (e :: es) [] pos) (dMeth0 C m sp to t) := pe_to (M.methE he hr hg hx ha hj hst hpl ht) fun _ _ _ h => h.meth0
theorem Method.dEn {to : DX D} (M : Method X.prog X.w X.K X.mg X.base CX k C m D' ps (lift X.K sp)) (he : DE X W o to) (hr : Room j X.A) (hg : X.A.guards = some []) (hx : ∀ σ, PassesAt CX X σ (WE W σ)) (hj : k ≤ j := by decide)
    (ht : eval (.Call (.Attribute o m apos) [] [] pos) X.env = (do
      let ov ← eval o X.env
      standAt apos.atName
      let (f, first) ← holding [ov] (getMethod ov m pl)
      callWith pos f first (backTo pos (starEach [] X.env)) (backToKw pos (keywordEach [] X.env))) := by rfl) :
    DE X W (.Call (.Attribute o m apos) [] [] pos) (dMeth C m sp to dNil) := pe_to (M.methE0 he hr hg hx hj ht) fun _ _ _ h => let ⟨M, ρ, z, O, R, RX, w, h1, x, k⟩ := h.meth; ⟨M, ρ, z, O, R, RX, w, h1, x, fun d ρ' z' v H' O' hd g w r => let ⟨a, dx, fs, q1, q2, q3, q4⟩ := k d ρ' z' v H' O' hd g w r; ⟨a, dx, fs, q1, q2, q3, q4.nilS⟩⟩
theorem Method.d0n {to : DX D} {E : L2.St → XK} (M : Method X.prog X.w X.K X.mg X.base CX k C m D' ps (lift X.K sp)) (he : DE X W o to) (hr : Room j X.A) (hg : X.A.guards = some []) (hx : ∀ σ, PassesAt CX X σ (E σ)) (hj : k ≤ j := by decide)
    (ht : eval (.Call (.Attribute o m apos) [] [] pos) X.env = (do
      let ov ← eval o X.env
      standAt apos.atName
      let (f, first) ← holding [ov] (getMethod ov m pl)
      callWith pos f first (backTo pos (starEach [] X.env)) (backToKw pos (keywordEach [] X.env))) := by rfl) :
    DE X W (.Call (.Attribute o m apos) [] [] pos) (dMeth0 C m sp to dNil) := pe_to (M.methE0 he hr hg hx hj ht) fun _ _ _ h => let ⟨M, ρ, z, O, R, RX, w, h1, x, k⟩ := UG.meth0 (E := E) h; ⟨M, ρ, z, O, R, RX, w, h1, x, fun d ρ' z' v H' O' hd g w r => let ⟨a, dx, fs, q1, q2, q3, q4⟩ := k d ρ' z' v H' O' hd g w r; ⟨a, dx, fs, q1, q2, q3, q4.nilS⟩⟩
def dMethKw (C : Addr) (m : Str) (n mm : Nat) (gD : List D → List D → List D) (sp : PSp) (to : DX D) (t tk : DX (List D)) : DX D := fun ρ z R RX => to ρ z (fun d ρ1 z1 => (∃ ns ds, d = .ins C ns ds ∧ m ∉ ns) ∧ t ρ1 z1 (fun es ρ2 z2 => tk ρ2 z2 (fun fs ρ3 z3 => es.length = n ∧ fs.length = mm ∧
  sp (gD (d :: es) fs) z3 (fun r z4 => R r ρ3 z4) noP) RX) RX) RX
theorem UG.methKw {K : PySem.W.Frag} {to : DX D} {t tk : DX (List D)} {nn mm : Nat} {σ : L2.St} {H : Hp} {Q : VK} {E : L2.St → XK} (kd : KwD (nn + 1) mm gV gD) (h : UG K W (relE K) (dMethKw C m nn mm gD sp to t tk) σ H Q) :
    tMethKw C m nn mm (lift K sp) gV E (UG K W (relE K) to) (UG K W (relEs K) t) (UG K W (relEs K) tk) σ H Q := by
  obtain ⟨M, ρ, z, O, R, RX, w, h, x, k⟩ := h
  refine ⟨M, ρ, z, O, _, RX, w, h, x, fun d ρ1 z1 v H1 O1 ⟨⟨ns, ds, ed, hm⟩, h1⟩ g1 w1 r1 => ?_⟩
  have r1' := r1
  rw [ed] at r1'
  obtain ⟨a, dx, vs, rfl, q1, q2, q3⟩ := RepP.ins (z := z1) (.inl r1')
  exact ⟨a, dx, _, rfl, q1, zip_lookup_none hm, M, ρ1, z1, O1, _, RX, w1, h1, x.after g1.toGo, fun es ρ2 z2 ws H2 O2 h2 g2 w2 r2 => ⟨M, ρ2, z2, O2, _, RX, w2, h2, x.after (g1.trans g2).toGo, fun fs ρ3 z3 us H3 O3 ⟨l1, l2, h3⟩ g3 w3 r3 =>
    ⟨by rw [← Reps.length r2]; exact l1, by rw [← Reps.length r3]; exact l2, lift_at0 w3 (kd K _ _ (d :: es) fs _ us (by rw [List.length_cons, l1]) l2 (.cons (Rep.mono (g2.trans g3).ext _ _ r1) (Reps.mono g3.ext _ _ r2)) r3) h3 (fun d z' v H' hd g w r => k d ρ3 z' v H' O3 hd (g1.trans (g2.trans (g3.trans g))) w r)⟩⟩⟩
theorem Method.dkw {to : DX D} {t tk : DX (List D)} {E : L2.St → XK} (M : Method X.prog X.w X.K X.mg X.base CX k C m D' ps (lift X.K sp)) (kd : KwD (n + 1) ks.length gV gD) (hb : ∀ (f : Addr) (fd : FuncData), D' f fd → KwB X.K fd ps (n + 1) ks g gV) (he : DE X W o to) (hr : Room j X.A) (hg : X.A.guards = some [])
    (hx : ∀ σ, PassesAt CX X σ (E σ)) (ha : DAs X W (e :: es) t) (hkw : DKw X W kws tk) (hj : k ≤ j := by decide) (hall : (backToKw pos (keywordEach kws X.env)).all (·.1.isSome) = true := by rfl) (hks : (backToKw pos (keywordEach kws X.env)).filterMap (·.1) = ks := by rfl)
    (hst : starEach (e :: es) X.env = (false, eval e X.env) :: starEach es X.env := by rfl) (hpl : ((backTo pos (starEach (e :: es) X.env)).any (·.1) || (backToKw pos (keywordEach kws X.env)).any (·.1.isNone)) = false := by rfl)
    (ht : eval (.Call (.Attribute o m apos) (e :: es) kws pos) X.env = (do
      let ov ← eval o X.env
      standAt apos.atName
      let (f, first) ← holding [ov] (getMethod ov m pl)
      callWith pos f first (backTo pos (starEach (e :: es) X.env)) (backToKw pos (keywordEach kws X.env))) := by rfl) :
    DE X W (.Call (.Attribute o m apos) (e :: es) kws pos) (dMethKw C m n ks.length gD sp to t tk) := pe_to (M.methKw hb he hr hg hx ha hkw hj hall hks hst hpl ht) fun _ _ _ h => UG.methKw kd h
theorem Method.dkw0 {to : DX D} {tk : DX (List D)} {E : L2.St → XK} (M : Method X.prog X.w X.K X.mg X.base CX k C m D' ps (lift X.K sp)) (kd : KwD 1 ks.length gV gD) (hb : ∀ (f : Addr) (fd : FuncData), D' f fd → KwB X.K fd ps 1 ks g gV) (he : DE X W o to) (hr : Room j X.A) (hg : X.A.guards = some [])
    (hx : ∀ σ, PassesAt CX X σ (E σ)) (hkw : DKw X W kws tk) (hj : k ≤ j := by decide) (hall : (backToKw pos (keywordEach kws X.env)).all (·.1.isSome) = true := by rfl) (hks : (backToKw pos (keywordEach kws X.env)).filterMap (·.1) = ks := by rfl)
    (hpl : ((backTo pos (starEach [] X.env)).any (·.1) || (backToKw pos (keywordEach kws X.env)).any (·.1.isNone)) = false := by rfl)
    (ht : eval (.Call (.Attribute o m apos) [] kws pos) X.env = (do
      let ov ← eval o X.env
      standAt apos.atName
      let (f, first) ← holding [ov] (getMethod ov m pl)
      callWith pos f first (backTo pos (starEach [] X.env)) (backToKw pos (keywordEach kws X.env))) := by rfl) :
    DE X W (.Call (.Attribute o m apos) [] kws pos) (dMethKw C m 0 ks.length gD sp to dNil tk) := pe_to (M.methKw0 hb he hr hg hx hkw hj hall hks hpl ht) fun _ _ _ h => let ⟨M, ρ, z, O, R, RX, w, h1, x, k⟩ := UG.methKw (E := E) kd h; ⟨M, ρ, z, O, R, RX, w, h1, x, fun d ρ' z' v H' O' hd g w r => let ⟨a, dx, fs, q1, q2, q3, q4⟩ := k d ρ' z' v H' O' hd g w r; ⟨a, dx, fs, q1, q2, q3, q4.nilS⟩⟩
/-! ### own len, str, repr, ==, f'..' -/
def dOne (C : Addr) (sp : PSp) (c : D → Prop) (t : DX D) : DX D := fun ρ z R RX => t ρ z (fun d ρ1 z1 => (∃ ns ds, d = .ins C ns ds) ∧ sp [d] z1 (fun r z2 => c r ∧ R r ρ1 z2) noP) RX
def lenOk : D → Prop
  | .int n => 0 ≤ n ∧ n < 2 ^ 63
  | _ => False
def isStr : D → Prop
  | .str _ => True
  | _ => False
theorem UG.one1 {K : PySem.W.Frag} {c : D → Prop} {t : DX D} {σ : L2.St} {H : Hp} {Q : VK} (h : UG K W (relE K) (dOne C sp c t) σ H Q) :
    tCons (UG K W (relE K) t) tNil σ H fun vs H1 => ∃ a dx fs, vs = [.ref a] ∧ H1 a = some (.ins C dx fs) ∧ lift K sp [.ref a] H1 (fun v H' => ∃ d N, c d ∧ Rep K N H' d v ∧ Q v H') E0 := by
  obtain ⟨M, ρ, z, O, R, RX, w, h, x, k⟩ := h
  refine ⟨M, ρ, z, O, _, RX, w, h, x, fun d ρ1 z1 v H1 O1 ⟨⟨ns, ds, ed⟩, h1⟩ g1 w1 r1 => ?_⟩
  have r1' := r1
  rw [ed] at r1'
  obtain ⟨a, dx, vs, rfl, q1, q2, q3⟩ := RepP.ins (z := z1) (.inl r1')
  exact ⟨a, dx, _, rfl, q1, lift_at0 (R := fun d ρ z => c d ∧ R d ρ z) w1 (.cons r1 .nil) h1 fun d z' v H' ⟨hc, hd⟩ g w r => ⟨d, _, hc, r, k d ρ1 z' v H' O1 hd (g1.trans g) w r⟩⟩
theorem Method.dLen {t : DX D} (M : Method X.prog X.w X.K X.mg X.base CX0 k C "__len__" D' ps (lift X.K sp)) (hr : Room j X.A) (hg : X.A.guards = some []) (hG : Gl X "len") (hm : X.mg "len" = none) (he : DE X W e t) (hj : k + 1 ≤ j := by decide)
    (hs : starEach [e] X.env = (false, eval e X.env) :: starEach [] X.env := by rfl) : DE X W (.Call (.Name "len" p) [e] [] pos) (dOne C sp lenOk t) := pe_to (pe_callB (M.len hr hg hj) hG hm PySem.boot_len (pa_cons he pa_nil hs) (by decide) (by decide) hs (by rfl)) fun σ H Q h => by
  obtain ⟨M, ρ, z, O, R, RX, w, h1, x, k⟩ := h.one1
  refine ⟨M, ρ, z, O, R, RX, w, h1, x, fun d ρ' z' v H' O' hd g w r => ?_⟩
  obtain ⟨a, dx, fs, q1, q2, q3⟩ := k d ρ' z' v H' O' hd g w r
  refine ⟨a, dx, fs, q1, q2, ?_⟩
  unfold lift at q3 ⊢
  obtain ⟨M1, ds, z1, R1, RX1, p1, p2, p3, p4, p5, p6, p7⟩ := q3
  refine ⟨M1, ds, z1, R1, RX1, p1, p2, p3, p4, p5, fun d z' v H' hd f r => ?_, p7⟩
  obtain ⟨d, N, hc, r, hq⟩ := p6 d z' v H' hd f r
  cases d with
  | int i => obtain rfl := RepP.int (z := z') (.inl r); exact ⟨i, rfl, hc.1, hc.2, hq⟩
  | _ => exact hc.elim
theorem lift_str {K : PySem.W.Frag} {vs : List V} {H : Hp} {Q : VK} {E : XK} (q3 : lift K sp vs H (fun v H' => ∃ d N, isStr d ∧ Rep K N H' d v ∧ Q v H') E) : lift K sp vs H (fun v H' => ∃ z : Str, v = .str z ∧ Q (.str z) H') E := by
  unfold lift at q3 ⊢
  obtain ⟨M1, ds, z1, R1, RX1, p1, p2, p3, p4, p5, p6, p7⟩ := q3
  refine ⟨M1, ds, z1, R1, RX1, p1, p2, p3, p4, p5, fun d z' v H' hd f r => ?_, p7⟩
  obtain ⟨d, N, hc, r, hq⟩ := p6 d z' v H' hd f r
  cases d with
  | str i => obtain rfl := RepP.str (z := z') (.inl r); exact ⟨i, rfl, hq⟩
  | _ => exact hc.elim
theorem Method.dStr {t : DX D} (M : Method X.prog X.w X.K X.mg X.base CX0 k C "__str__" D' ps (lift X.K sp)) (hr : Room j X.A) (hg : X.A.guards = some []) (hG : Gl X "str") (hm : X.mg "str" = none) (he : DE X W e t) (hj : k + 2 ≤ j := by decide)
    (hs : starEach [e] X.env = (false, eval e X.env) :: starEach [] X.env := by rfl) : DE X W (.Call (.Name "str" p) [e] [] pos) (dOne C sp isStr t) := pe_to (pe_callTy (M.str hr hg hj) hG hm (by decide +kernel) (pa_cons he pa_nil hs) (by decide) (by decide) hs (by rfl)) fun σ H Q h => by
  obtain ⟨M, ρ, z, O, R, RX, w, h1, x, k⟩ := h.one1
  refine ⟨M, ρ, z, O, R, RX, w, h1, x, fun d ρ' z' v H' O' hd g w r => ?_⟩
  obtain ⟨a, dx, fs, q1, q2, q3⟩ := k d ρ' z' v H' O' hd g w r
  exact ⟨a, dx, fs, q1, q2, lift_str q3⟩
theorem Method.dRepr {t : DX D} (M : Method X.prog X.w X.K X.mg X.base CX0 k C "__repr__" D' ps (lift X.K sp)) (hr : Room j X.A) (hg : X.A.guards = some []) (hG : Gl X "repr") (hm : X.mg "repr" = none) (he : DE X W e t) (hj : k + 1 ≤ j := by decide)
    (hs : starEach [e] X.env = (false, eval e X.env) :: starEach [] X.env := by rfl) : DE X W (.Call (.Name "repr" p) [e] [] pos) (dOne C sp isStr t) := pe_to (pe_callB (M.repr hr hg hj) hG hm (by decide +kernel) (pa_cons he pa_nil hs) (by decide) (by decide) hs (by rfl)) fun σ H Q h => by
  obtain ⟨M, ρ, z, O, R, RX, w, h1, x, k⟩ := h.one1
  refine ⟨M, ρ, z, O, R, RX, w, h1, x, fun d ρ' z' v H' O' hd g w r => ?_⟩
  obtain ⟨a, dx, fs, q1, q2, q3⟩ := k d ρ' z' v H' O' hd g w r
  exact ⟨a, dx, fs, q1, q2, lift_str q3⟩
/-- a part of an f-string -/
def dFmtO (C : Addr) (sp : PSp) (t : DX D) : DX Str := fun ρ z R RX => t ρ z (fun d ρ1 z1 => (∃ ns ds, d = .ins C ns ds) ∧ sp [d] z1 (fun r z2 => match r with | .str y => R y ρ1 z2 | _ => False) noP) RX
theorem Method.dFmt {t : DX D} (M : Method X.prog X.w X.K X.mg X.base CX0 k C "__str__" D' ps (lift X.K sp)) (F : Fmt X.K C) (hr : Room j X.A) (hg : X.A.guards = some []) (he : DE X W e t) (hj : k + 1 ≤ j := by decide) : DF X W (.FormattedValue e (-1) none pos) (dFmtO C sp t) :=
  pe_to (M.fmt F.fm F.hm he hr hg hj) fun σ H Q h => by
  obtain ⟨M, ρ, z, O, R, RX, w, h, x, k⟩ := h
  refine ⟨M, ρ, z, O, _, RX, w, h, x, fun d ρ1 z1 v H1 O1 ⟨⟨ns, ds, ed⟩, h1⟩ g1 w1 r1 => ?_⟩
  have r1' := r1
  rw [ed] at r1'
  obtain ⟨a, dx, vs, rfl, q1, q2, q3⟩ := RepP.ins (z := z1) (.inl r1')
  refine ⟨a, dx, _, rfl, q1, lift_at0 (R := fun d ρ z => match d with | .str y => R y ρ z | _ => False) w1 (.cons r1 .nil) h1 fun d z' v H' hd g w r => ?_⟩
  cases d with
  | str y => obtain rfl := RepP.str (z := z') (.inl r); exact ⟨y, rfl, k y ρ1 z' _ H' O1 hd (g1.trans g) w rfl⟩
  | _ => exact hd.elim
/-- o == x, o != x by the class's own == -/
def dEqO (K : PySem.W.Frag) (C : Addr) (sp : PSp) (f : Bool → Bool) (ta tb : DX D) : DX D := fun ρ z R RX => ta ρ z (fun d1 ρ1 z1 => tb ρ1 z1 (fun d2 ρ2 z2 => (∃ ns ds, d1 = .ins C ns ds) ∧ (∃ t, tyD K d2 t ∧ PySem.W.notFirst K C t = true) ∧
  sp [d1, d2] z2 (fun r z3 => match r with | .bl b => R (.bl (f b)) ρ2 z3 | _ => False) noP) RX) RX
theorem UG.eqO {K : PySem.W.Frag} {f : Bool → Bool} {ta tb : DX D} {σ : L2.St} {H : Hp} {Q : VK} (h : UG K W (relE K) (dEqO K C sp f ta tb) σ H Q) :
    tOp (fun x y H Q => ∃ a dx fs t, x = .ref a ∧ H a = some (.ins C dx fs) ∧ TyX K H y t ∧ PySem.W.notFirst K C t = true ∧ lift K sp [x, y] H (fun v H' => ∃ b : Bool, v = .bl b ∧ Q (.bl (f b)) H') E0) (UG K W (relE K) ta) (UG K W (relE K) tb) σ H Q := by
  obtain ⟨M, ρ, z, O, R, RX, w, h, x, k⟩ := h
  refine ⟨M, ρ, z, O, _, RX, w, h, x, fun d1 ρ1 z1 v1 H1 O1 h1 g1 w1 r1 => ?_⟩
  refine ⟨M, ρ1, z1, O1, _, RX, w1, h1, x.after g1.toGo, fun d2 ρ2 z2 v2 H2 O2 ⟨⟨ns, ds, ed⟩, ⟨t, ht, hn⟩, h2⟩ g2 w2 r2 => ?_⟩
  have r1' := Rep.mono g2.ext _ _ r1
  have r1'' := r1'
  rw [ed] at r1'
  obtain ⟨a, dx, vs, rfl, q1, q2, q3⟩ := RepP.ins (z := z2) (.inl r1')
  refine ⟨a, dx, _, t, rfl, q1, tyX_of (z := z2) (.inl r2) ht, hn, lift_at0 (R := fun d ρ z => match d with | .bl b => R (.bl (f b)) ρ z | _ => False) w2 (.cons r1'' (.cons r2 .nil)) h2 fun d z' v H' hd g w r => ?_⟩
  cases d with
  | bl y => obtain rfl := RepP.bl (z := z') (.inl r); exact ⟨y, rfl, k _ ρ2 z' _ H' O2 hd (g1.trans (g2.trans g)) w .b⟩
  | _ => exact hd.elim
theorem Method.dEq {ta tb : DX D} (M : Method X.prog X.w X.K X.mg X.base CX0 k C "__eq__" D' ps (lift X.K sp)) (hr : Room j X.A) (hg : X.A.guards = some []) (ha : DE X W a ta) (hb : DE X W b tb) (hj : k ≤ j := by decide) : DE X W (.Compare a [.Eq] [b] pos) (dEqO X.K C sp id ta tb) :=
  pe_to (pe_cmpR (Method.eq (o := .Eq) M (fun _ _ => rfl) hr hg hj) ha hb (nomark _)) fun _ _ _ h => h.eqO
theorem Method.dNe {ta tb : DX D} (M : Method X.prog X.w X.K X.mg X.base CX0 k C "__eq__" D' ps (lift X.K sp)) (N : NoNe X.K C) (hr : Room j X.A) (hg : X.A.guards = some []) (ha : DE X W a ta) (hb : DE X W b tb) (hj : k + 1 ≤ j := by decide) : DE X W (.Compare a [.NotEq] [b] pos) (dEqO X.K C sp not ta tb) :=
  pe_to (pe_cmpR (Method.ne M N hr hg hj) ha hb (nomark _)) fun _ _ _ h => h.eqO
theorem Method.tEq {ta tb : DX D} (M : Method X.prog X.w X.K X.mg X.base CX0 k C "__eq__" D' ps (lift X.K sp)) (hr : Room j X.A) (hg : X.A.guards = some []) (ha : DE X W a ta) (hb : DE X W b tb) (hj : k ≤ j := by decide) : DT X W (.Compare a [.Eq] [b] pos) (dTest (dEqO X.K C sp id ta tb)) :=
  pt_to (pt_cmpR (Method.eq (o := .Eq) M (fun _ _ => rfl) hr hg hj) ha hb (nomark _)) fun _ _ _ h => h.test.eqO
theorem Method.tNe {ta tb : DX D} (M : Method X.prog X.w X.K X.mg X.base CX0 k C "__eq__" D' ps (lift X.K sp)) (N : NoNe X.K C) (hr : Room j X.A) (hg : X.A.guards = some []) (ha : DE X W a ta) (hb : DE X W b tb) (hj : k + 1 ≤ j := by decide) : DT X W (.Compare a [.NotEq] [b] pos) (dTest (dEqO X.K C sp not ta tb)) :=
  pt_to (pt_cmpR (Method.ne M N hr hg hj) ha hb (nomark _)) fun _ _ _ h => h.test.eqO
/-- x == o, x of a built-in kind -/
def plainD : D → Prop
  | .str _ | .int _ | .bl _ | .non | .tup _ | .lst _ => True
  | _ => False
def dReqO (C : Addr) (sp : PSp) (ta tb : DX D) : DX D := fun ρ z R RX => ta ρ z (fun d1 ρ1 z1 => tb ρ1 z1 (fun d2 ρ2 z2 => (∃ ns ds, d2 = .ins C ns ds) ∧ plainD d1 ∧
  sp [d2, d1] z2 (fun r z3 => match r with | .bl b => R (.bl b) ρ2 z3 | _ => False) noP) RX) RX
theorem UG.reqO {K : PySem.W.Frag} {ta tb : DX D} {σ : L2.St} {H : Hp} {Q : VK} (h : UG K W (relE K) (dReqO C sp ta tb) σ H Q) : tOp (rReqO K C (lift K sp)) (UG K W (relE K) ta) (UG K W (relE K) tb) σ H Q := by
  obtain ⟨M, ρ, z, O, R, RX, w, h, x, k⟩ := h
  refine ⟨M, ρ, z, O, _, RX, w, h, x, fun d1 ρ1 z1 v1 H1 O1 h1 g1 w1 r1 => ?_⟩
  refine ⟨M, ρ1, z1, O1, _, RX, w1, h1, x.after g1.toGo, fun d2 ρ2 z2 v2 H2 O2 ⟨⟨ns, ds, ed⟩, hp, h2⟩ g2 w2 r2 => ?_⟩
  have r1' := Rep.mono g2.ext _ _ r1
  have r2' := r2
  rw [ed] at r2'
  obtain ⟨a, dx, vs, rfl, q1, q2, q3⟩ := RepP.ins (z := z2) (.inl r2')
  refine ⟨a, dx, _, rfl, ?_, q1, lift_at0 (R := fun d ρ z => match d with | .bl b => R (.bl b) ρ z | _ => False) w2 (.cons r2 (.cons r1' .nil)) h2 fun d z' v H' hd g w r => ?_⟩
  · cases d1 with
    | str y => obtain rfl := RepP.str (z := z2) (.inl r1'); exact .inl trivial
    | int y => obtain rfl := RepP.int (z := z2) (.inl r1'); exact .inl trivial
    | bl y => obtain rfl := RepP.bl (z := z2) (.inl r1'); exact .inl trivial
    | non => obtain rfl := RepP.non (z := z2) (.inl r1'); exact .inl trivial
    | tup y => obtain ⟨t, ws, rfl, q, _⟩ := RepP.tup (z := z2) (.inl r1'); exact .inr (.inl ⟨t, ws, rfl, q⟩)
    | lst y => obtain ⟨t, ws, rfl, q, _⟩ := RepP.lst (z := z2) (.inl r1'); exact .inr (.inr ⟨t, ws, rfl, SqL.of q⟩)
    | _ => exact hp.elim
  · cases d with
    | bl y => obtain rfl := RepP.bl (z := z') (.inl r); exact ⟨y, rfl, k _ ρ2 z' _ H' O2 hd (g1.trans (g2.trans g)) w .b⟩
    | _ => exact hd.elim
theorem Method.dReq {ta tb : DX D} (M : Method X.prog X.w X.K X.mg X.base CX0 k C "__eq__" D' ps (lift X.K sp)) (R : Refl X.K C) (hr : Room j X.A) (hg : X.A.guards = some []) (ha : DE X W a ta) (hb : DE X W b tb) (hj : k ≤ j := by decide) : DE X W (.Compare a [.Eq] [b] pos) (dReqO C sp ta tb) :=
  pe_to (pe_cmpR (Method.req M R hr hg hj) ha hb (nomark _)) fun _ _ _ h => h.reqO
end
end Lay

set_option Elab.async false
set_option linter.all false
set_option maxRecDepth 100000
set_option maxHeartbeats 2000000
namespace Lay
open PySem PySem.Spec PyProof.Rows L2
/-! ### makers -/
abbrev ISp := List D → Z → (List Str → List D → Z → Prop) → PX → Prop
structure FinI (M : Addr → Prop) (x : Addr) (H : Hp) (z : Z) (H' : Hp) (z' : Z) : Prop where
  pot : PotOk H' z'
  pm : ∀ a, z'.p = some a → ¬ M a ∧ a ≠ x
  zp : ∀ a, z'.p = some a → z.p = some a ∨ H a = none
  fx : ∀ a o, H a = some o → z.p ≠ some a → a ≠ x → H' a = some o
  al : ∀ a, H a ≠ none → H' a ≠ none
@[irreducible] def liftI (K : PySem.W.Frag) (C : Addr) (isp : ISp) : Sp := fun vs H Q E => ∃ x dx us M ds z R RX, vs = .ref x :: us ∧ H x = some (.ins C dx []) ∧ (∀ a, M a → H a ≠ none) ∧ ¬ M x ∧ z.p ≠ some x ∧ PotOk H z ∧ (∀ a, z.p = some a → ¬ M a) ∧
  Reps K (NN (more M x) z O0) H ds us ∧ isp ds z R RX ∧
  (∀ ns es z' ws dx' H', R ns es z' → FinI M x H z H' z' → H' x = some (.ins C dx' (ns.zip ws)) → ns.length = es.length → Reps K (NN (more M x) z' O0) H' es ws → Q .non H') ∧
  (∀ Cx ns es z' od H', RX Cx ns es z' → FinI M x H z H' z' → ExAt K (NN (more M x) z' O0) H' od ns es → E (.ref Cx) od H')
theorem FinI.fin {M : Addr → Prop} {x : Addr} {H H1 H' : Hp} {z z' : Z} (f : FinI M x H1 z H' z') (s : Same H H1) (hx : H x = none) : Fin M H z H' z' := by
  have al : ∀ a, H a ≠ none → H1 a ≠ none := fun a h => by
    cases e : H a with
    | none => exact absurd e h
    | some o => rw [s a o e]; exact Option.some_ne_none _
  refine ⟨f.pot, fun a h => (f.pm a h).1, fun a h => ?_, fun a o h n => f.fx a o (s a o h) n (ne_of_none h hx), fun a h => f.al a (al a h)⟩
  rcases f.zp a h with q | q
  · exact .inl q
  · exact .inr (Classical.byContradiction fun n => al a n q)
section
variable {X : Cx} {W : WX} {e o a b : Expr} {es : List Expr} {pos p apos : Pos} {CX : CXT} {j k n : Nat} {x m : Str} {st : Stmt} {ps ks : List Str} {isp : ISp} {kws : List Keyword} {C : Addr} {D' : Addr → FuncData → Prop}
  {g : List Value → List Value → List Value} {gV : List V → List V → List V} {gD : List D → List D → List D}
/-- the arguments' order, told of the list without the new one -/
def dMake (C : Addr) (isp : ISp) (t : DX (List D)) : DX D := fun ρ z R RX => t ρ z (fun ds ρ' z' => isp ds z' (fun ns es z2 => R (.ins C ns es) ρ' z2) (fun Cx ns es z2 => RX Cx ns es ρ' z2)) RX
def dMake0 (C : Addr) (isp : ISp) (t : DX (List D)) : DX D := fun ρ z R RX => t ρ z (fun ds ρ' z' => isp ds z' (fun ns es z2 => R (.ins C ns es) ρ' z2) noP) RX
theorem make_at {K : PySem.W.Frag} {M : Addr → Prop} {H : Hp} {σ : L2.St} {ρ : List Sl} {z : Z} {O : Nat → Option Addr} {R : KD'} {ds : List D} {vs : List V} {Q : VK} {E : XK} (w : Wd K M H σ ρ z O) (r : Reps K (NN M z O) H ds vs) {PXr : PX}
    (h : isp ds z (fun ns es z2 => R (.ins C ns es) ρ z2) PXr) (k : ∀ d z' v H', R d ρ z' → GoE M H z O H' z' O → Wd K M H' σ ρ z' O → Rep K (NN M z' O) H' d v → Q v H')
    (hx : ∀ Cx ns es z' od H', PXr Cx ns es z' → GoE M H z O H' z' O → Wd K M H' σ ρ z' O → ExAt K (NN M z' O) H' od ns es → E (.ref Cx) od H') :
    ∀ x dx, H x = none → H dx = none → dx ≠ x → liftI K C isp (.ref x :: vs) (upd (upd H dx (.own x)) x (.ins C dx [])) (fun v H2 => v = .non ∧ Q (.ref x) H2) E := by
  intro x dx n1 n2 n3
  have n1' : upd H dx (.own x) x = none := by rw [upd_ne (Ne.symm n3)]; exact n1
  have sm : Same H (upd (upd H dx (.own x)) x (.ins C dx [])) := (same_new n2).trans (same_new n1')
  generalize hH1 : upd (upd H dx (.own x)) x (.ins C dx []) = H1 at sm
  have ex : H1 x = some (.ins C dx []) := by rw [← hH1, upd_same]
  have hn : ∀ a, NN M z O a → a ≠ x := fun a h q => w.alloc a h (by rw [q]; exact n1)
  obtain ⟨w1, g1⟩ := w.grow sm
  have ext1 : Ext (NN M z O) H (NN (more (hid M O) x) z O0) H1 := ⟨fun a o h _ => sm a o h, fun a h => by
    rcases h.more with q | q
    · exact .inl (NN.hid.mp q)
    · exact .inr (by rw [q]; exact n1)⟩
  have exb : ∀ {z' : Z} {H' : Hp}, FinI (hid M O) x H1 z H' z' → Ext (NN (more (hid M O) x) z' O0) H' (NN M z' O) H' := fun f => ⟨fun a o h _ => h, fun a h => .inl (NN.hid.mpr h).less⟩
  unfold liftI
  refine ⟨x, dx, vs, hid M O, ds, z, _, _, rfl, ex, fun a h => ?_, fun h => ?_, fun h => hn x (.inr (.inl h)) rfl, w1.pot, w.pmh, Reps.mono ext1 _ _ r, h, fun ns es z' ws dx' H' hd f e l r => ⟨rfl, ?_⟩, fun Cx ns es z' od H' hd f e => ?_⟩
  · exact w1.alh a h
  · exact hn x (by rcases h with h | h; exact .inl h; exact .inr (.inr h)) rfl
  · obtain ⟨w', g'⟩ := w.fin (f.fin sm n1)
    refine k _ z' _ H' hd g' w' ?_
    unfold relE at *
    rw [Rep]
    refine ⟨x, dx', ws, rfl, ?_, e, l, Reps.mono (exb f) _ _ r⟩
    rintro (q | q | q)
    · exact hn x (.inl q) rfl
    · exact (f.pm x q).2 rfl
    · exact hn x (.inr (.inr q)) rfl
  · obtain ⟨w', g'⟩ := w.fin (f.fin sm n1)
    exact hx Cx ns es z' od H' hd g' w' (e.mono (exb f))
theorem Maker.dE {t : DX (List D)} (M : Maker X.prog X.w X.K X.mg X.base CX k x C D' ps (liftI X.K C isp)) (hG : Gl X x) (hr : Room j X.A) (hg : X.A.guards = some []) (hx : ∀ σ, PassesAt CX X σ (WE W σ)) (ha : DAs X W (e :: es) t) (hj : k + 1 ≤ j := by decide)
    (hdb : (x == ("__debug__" : Str)) = false := by decide) (he : starEach (e :: es) X.env = (false, eval e X.env) :: starEach es X.env := by rfl) (hpl : (backTo pos (starEach es X.env)).any (·.1) = false := by rfl) :
    DE X W (.Call (.Name x p) (e :: es) [] pos) (dMake C isp t) := pe_to (M.makeE hG hr hg hx ha hj hdb he hpl) fun σ H Q ⟨M, ρ, z, O, R, RX, w, h, x, k⟩ =>
  ⟨M, ρ, z, O, _, RX, w, h, x, fun ds ρ1 z1 vs H1 O1 h1 g1 w1 r1 => make_at w1 r1 h1 (fun d z' v H' hd g w r => k d ρ1 z' v H' O1 hd (g1.trans g) w r) fun Cx ns es z' od H' hd g w ex => x Cx ns es ρ1 z' od H' O1 σ hd (g1.trans g).toGo w ex⟩
theorem Maker.d0 {t : DX (List D)} {E : L2.St → XK} (M : Maker X.prog X.w X.K X.mg X.base CX k x C D' ps (liftI X.K C isp)) (hG : Gl X x) (hr : Room j X.A) (hg : X.A.guards = some []) (hx : ∀ σ, PassesAt CX X σ (E σ)) (ha : DAs X W (e :: es) t) (hj : k + 1 ≤ j := by decide)
    (hdb : (x == ("__debug__" : Str)) = false := by decide) (he : starEach (e :: es) X.env = (false, eval e X.env) :: starEach es X.env := by rfl) (hpl : (backTo pos (starEach es X.env)).any (·.1) = false := by rfl) :
    DE X W (.Call (.Name x p) (e :: es) [] pos) (dMake0 C isp t) := pe_to (M.makeE hG hr hg hx ha hj hdb he hpl) fun σ H Q ⟨M, ρ, z, O, R, RX, w, h, x, k⟩ =>
  ⟨M, ρ, z, O, _, RX, w, h, x, fun ds ρ1 z1 vs H1 O1 h1 g1 w1 r1 => make_at w1 r1 h1 (fun d z' v H' hd g w r => k d ρ1 z' v H' O1 hd (g1.trans g) w r) fun Cx ns es z' od H' hd _ _ _ => hd.elim⟩
/-- gV over lists that begin with the new one -/
def KwM (n m : Nat) (gV : List V → List V → List V) (gD : List D → List D → List D) : Prop := ∀ (x : V) (vs zs : List V), vs.length = n → zs.length = m → ∃ us, gV (x :: vs) zs = x :: us ∧
  ∀ (K : PySem.W.Frag) (N : Addr → Prop) (H : Hp) (ds es : List D), Reps K N H ds vs → Reps K N H es zs → Reps K N H (gD ds es) us
def dMakeKw (C : Addr) (n m : Nat) (gD : List D → List D → List D) (isp : ISp) (t tk : DX (List D)) : DX D := fun ρ z R RX => t ρ z (fun ds ρ1 z1 => tk ρ1 z1 (fun es ρ2 z2 => ds.length = n ∧ es.length = m ∧
  isp (gD ds es) z2 (fun ns es z3 => R (.ins C ns es) ρ2 z3) (fun Cx ns es z3 => RX Cx ns es ρ2 z3)) RX) RX
def dMakeKw0 (C : Addr) (n m : Nat) (gD : List D → List D → List D) (isp : ISp) (t tk : DX (List D)) : DX D := fun ρ z R RX => t ρ z (fun ds ρ1 z1 => tk ρ1 z1 (fun es ρ2 z2 => ds.length = n ∧ es.length = m ∧
  isp (gD ds es) z2 (fun ns es z3 => R (.ins C ns es) ρ2 z3) noP) RX) RX
theorem UG.makeKw {K : PySem.W.Frag} {t tk : DX (List D)} {nn mm : Nat} {σ : L2.St} {H : Hp} {Q : VK} (kd : KwM nn mm gV gD) (h : UG K W (relE K) (dMakeKw C nn mm gD isp t tk) σ H Q) : tMakeKw C nn mm (liftI K C isp) gV (WE W) (UG K W (relEs K) t) (UG K W (relEs K) tk) σ H Q := by
  obtain ⟨M, ρ, z, O, R, RX, w, h, x, k⟩ := h
  refine ⟨M, ρ, z, O, _, RX, w, h, x, fun ds ρ1 z1 vs H1 O1 h1 g1 w1 r1 => ⟨M, ρ1, z1, O1, _, RX, w1, h1, x.after g1.toGo, fun es ρ2 z2 ws H2 O2 ⟨l1, l2, h2⟩ g2 w2 r2 => ?_⟩⟩
  have m1 : vs.length = nn := by rw [← Reps.length r1]; exact l1
  have m2 : ws.length = mm := by rw [← Reps.length r2]; exact l2
  refine ⟨m1, m2, fun xx dx q1 q2 q3 => ?_⟩
  obtain ⟨us, e1, e2⟩ := kd (.ref xx) vs ws m1 m2
  rw [e1]
  exact make_at w2 (e2 K _ _ ds es (Reps.mono g2.ext _ _ r1) r2) h2 (fun d z' v H' hd g w r => k d ρ2 z' v H' O2 hd (g1.trans (g2.trans g)) w r) (fun Cx ns es z' od H' hd g w ex => x Cx ns es ρ2 z' od H' O2 σ hd (g1.trans (g2.trans g)).toGo w ex) xx dx q1 q2 q3
theorem UG.makeKw0 {K : PySem.W.Frag} {t tk : DX (List D)} {nn mm : Nat} {σ : L2.St} {H : Hp} {Q : VK} {E : L2.St → XK} (kd : KwM nn mm gV gD) (h : UG K W (relE K) (dMakeKw0 C nn mm gD isp t tk) σ H Q) : tMakeKw C nn mm (liftI K C isp) gV E (UG K W (relEs K) t) (UG K W (relEs K) tk) σ H Q := by
  obtain ⟨M, ρ, z, O, R, RX, w, h, x, k⟩ := h
  refine ⟨M, ρ, z, O, _, RX, w, h, x, fun ds ρ1 z1 vs H1 O1 h1 g1 w1 r1 => ⟨M, ρ1, z1, O1, _, RX, w1, h1, x.after g1.toGo, fun es ρ2 z2 ws H2 O2 ⟨l1, l2, h2⟩ g2 w2 r2 => ?_⟩⟩
  have m1 : vs.length = nn := by rw [← Reps.length r1]; exact l1
  have m2 : ws.length = mm := by rw [← Reps.length r2]; exact l2
  refine ⟨m1, m2, fun xx dx q1 q2 q3 => ?_⟩
  obtain ⟨us, e1, e2⟩ := kd (.ref xx) vs ws m1 m2
  rw [e1]
  exact make_at w2 (e2 K _ _ ds es (Reps.mono g2.ext _ _ r1) r2) h2 (fun d z' v H' hd g w r => k d ρ2 z' v H' O2 hd (g1.trans (g2.trans g)) w r) (fun Cx ns es z' od H' hd _ _ _ => hd.elim) xx dx q1 q2 q3
theorem Maker.dkw {t tk : DX (List D)} (M : Maker X.prog X.w X.K X.mg X.base CX k x C D' ps (liftI X.K C isp)) (kd : KwM n ks.length gV gD) (hb : ∀ (f : Addr) (fd : FuncData), D' f fd → KwB X.K fd ps (n + 1) ks g gV) (hG : Gl X x) (hr : Room j X.A) (hg : X.A.guards = some [])
    (hx : ∀ σ, PassesAt CX X σ (WE W σ)) (ha : DAs X W (e :: es) t) (hkw : DKw X W kws tk) (hj : k + 1 ≤ j := by decide)
    (hall : (backToKw pos (keywordEach kws X.env)).all (·.1.isSome) = true := by rfl) (hks : (backToKw pos (keywordEach kws X.env)).filterMap (·.1) = ks := by rfl)
    (hdb : (x == ("__debug__" : Str)) = false := by decide) (he : starEach (e :: es) X.env = (false, eval e X.env) :: starEach es X.env := by rfl)
    (hpl : ((backTo pos (starEach (e :: es) X.env)).any (·.1) || (backToKw pos (keywordEach kws X.env)).any (·.1.isNone)) = false := by rfl) : DE X W (.Call (.Name x p) (e :: es) kws pos) (dMakeKw C n ks.length gD isp t tk) :=
  pe_to (M.makeKw hb hG hr hg hx ha hkw hj hall hks hdb he hpl) fun _ _ _ h => h.makeKw kd
theorem Maker.dkwE {t tk : DX (List D)} {E : L2.St → XK} (M : Maker X.prog X.w X.K X.mg X.base CX k x C D' ps (liftI X.K C isp)) (kd : KwM n ks.length gV gD) (hb : ∀ (f : Addr) (fd : FuncData), D' f fd → KwB X.K fd ps (n + 1) ks g gV) (hG : Gl X x) (hr : Room j X.A) (hg : X.A.guards = some [])
    (hx : ∀ σ, PassesAt CX X σ (E σ)) (ha : DAs X W (e :: es) t) (hkw : DKw X W kws tk) (hj : k + 1 ≤ j := by decide)
    (hall : (backToKw pos (keywordEach kws X.env)).all (·.1.isSome) = true := by rfl) (hks : (backToKw pos (keywordEach kws X.env)).filterMap (·.1) = ks := by rfl)
    (hdb : (x == ("__debug__" : Str)) = false := by decide) (he : starEach (e :: es) X.env = (false, eval e X.env) :: starEach es X.env := by rfl)
    (hpl : ((backTo pos (starEach (e :: es) X.env)).any (·.1) || (backToKw pos (keywordEach kws X.env)).any (·.1.isNone)) = false := by rfl) : DE X W (.Call (.Name x p) (e :: es) kws pos) (dMakeKw0 C n ks.length gD isp t tk) :=
  pe_to (M.makeKw hb hG hr hg hx ha hkw hj hall hks hdb he hpl) fun _ _ _ h => UG.makeKw0 kd h
theorem UG.nil2 {K : PySem.W.Frag} {tk : TA} {σ : L2.St} {H : Hp} {Q : List V → List V → Hp → Prop} (h : UG K W (relEs K) dNil σ H fun vs H1 => tk σ H1 fun ws H2 => Q vs ws H2) : tk σ H fun ws H2 => Q [] ws H2 :=
  let ⟨M, ρ, z, O, R, RX, w, h, x, k⟩ := h
  k [] ρ z [] H O h .refl w Reps.nil
theorem Maker.dkw0 {tk : DX (List D)} (M : Maker X.prog X.w X.K X.mg X.base CX k x C D' ps (liftI X.K C isp)) (kd : KwM 0 ks.length gV gD) (hb : ∀ (f : Addr) (fd : FuncData), D' f fd → KwB X.K fd ps 1 ks g gV) (hG : Gl X x) (hr : Room j X.A) (hg : X.A.guards = some [])
    (hx : ∀ σ, PassesAt CX X σ (WE W σ)) (hkw : DKw X W kws tk) (hj : k + 1 ≤ j := by decide)
    (hall : (backToKw pos (keywordEach kws X.env)).all (·.1.isSome) = true := by rfl) (hks : (backToKw pos (keywordEach kws X.env)).filterMap (·.1) = ks := by rfl)
    (hdb : (x == ("__debug__" : Str)) = false := by decide)
    (hpl : ((backTo pos (starEach [] X.env)).any (·.1) || (backToKw pos (keywordEach kws X.env)).any (·.1.isNone)) = false := by rfl) : DE X W (.Call (.Name x p) [] kws pos) (dMakeKw C 0 ks.length gD isp dNil tk) :=
  pe_to (M.makeKw0 hb hG hr hg hx hkw hj hall hks hdb hpl) fun σ H Q h => UG.nil2 (UG.makeKw kd h)
theorem Maker.dkw0E {tk : DX (List D)} {E : L2.St → XK} (M : Maker X.prog X.w X.K X.mg X.base CX k x C D' ps (liftI X.K C isp)) (kd : KwM 0 ks.length gV gD) (hb : ∀ (f : Addr) (fd : FuncData), D' f fd → KwB X.K fd ps 1 ks g gV) (hG : Gl X x) (hr : Room j X.A) (hg : X.A.guards = some [])
    (hx : ∀ σ, PassesAt CX X σ (E σ)) (hkw : DKw X W kws tk) (hj : k + 1 ≤ j := by decide)
    (hall : (backToKw pos (keywordEach kws X.env)).all (·.1.isSome) = true := by rfl) (hks : (backToKw pos (keywordEach kws X.env)).filterMap (·.1) = ks := by rfl)
    (hdb : (x == ("__debug__" : Str)) = false := by decide)
    (hpl : ((backTo pos (starEach [] X.env)).any (·.1) || (backToKw pos (keywordEach kws X.env)).any (·.1.isNone)) = false := by rfl) : DE X W (.Call (.Name x p) [] kws pos) (dMakeKw0 C 0 ks.length gD isp dNil tk) :=
  pe_to (M.makeKw0 hb hG hr hg hx hkw hj hall hks hdb hpl) fun σ H Q h => UG.nil2 (UG.makeKw0 kd h)
/-! ### raising, catching -/
def dRaise (C : Addr) (fn : List Str) (t : DX (List D)) : DTS := fun R ρ z => t ρ z (fun ds ρ' z' => ds.length = fn.length ∧ ds.length ≤ 1000 ∧ R.ex C fn ds ρ' z') R.ex
theorem ExcOk.dRaise {fn : List Str} {t : DX (List D)} {pos2 : Pos} (E : ExcOk X.prog X.w X.K X.mg X.base x C fn ps) (hc : X.calm = true) (hG : Gl X x) (hr : Room j X.A) (tk : Takes X W) (ha : DAs X W (e :: es) t) (hj : 2 ≤ j := by decide)
    (hdb : (x == ("__debug__" : Str)) = false := by decide) (he : starEach (e :: es) X.env = (false, eval e X.env) :: starEach es X.env := by rfl) (hpl : (backTo pos (starEach es X.env)).any (·.1) = false := by rfl) :
    DS X W (.Raise (some (.Call (.Name x p) (e :: es) [] pos)) none pos2) (dRaise C fn t) := ps_to (E.raise hc hG hr tk ha hj hdb he hpl) fun D σ H ⟨M, ρ, z, O, R, w, h, k⟩ => by
  refine ⟨M, ρ, z, O, _, R.ex, w, h, k.ex, fun ds ρ' z' vs H' O' ⟨l1, l2, hd⟩ g w' r => ?_⟩
  have lv := Reps.length r
  refine ⟨by rw [← lv]; exact l1, by rw [← lv]; exact l2, fun d hd' => ?_⟩
  obtain ⟨w2, g2⟩ := w'.grow (same_new (o := .xd (fn.zip vs).reverse) hd')
  refine k.ex C fn ds ρ' z' (some d) _ O' σ hd (g.trans g2).toGo w2 ⟨fun n => w'.alloc d n hd', l1.symm, vs, upd_same, Reps.mono g2.ext _ _ r⟩
/-- try: .. except c as n: .. -/
def dTry (K : PySem.W.Frag) (c : Value) (i : Nat) (body : DTS) (suite : Addr → Value → Option Addr → DTS) : DTS := fun R ρ z => body { R with ex := fun C ns ds ρ' z' => ∃ b, PySem.W.exmOne K (.ref C) c = some b ∧
  (b = true → ∀ a od, (ns ≠ [] → od ≠ none) → suite a (.ref C) od { R with nx := fun ρ2 z2 => R.nx (ρ2.set i .any) z2, bk := fun ρ2 z2 => R.bk (ρ2.set i .any) z2, ct := fun ρ2 z2 => R.ct (ρ2.set i .any) z2 } (ρ'.set i (.exc a od ns ds)) z') ∧ (b = false → R.ex C ns ds ρ' z') } ρ z
theorem Wd.setx {K : PySem.W.Frag} {M : Addr → Prop} {H : Hp} {σ : L2.St} {ρ : List Sl} {z : Z} {O : Nat → Option Addr} (w : Wd K M H σ ρ z O) (i : Nat) {a : Addr} {od : Option Addr} {ns : List Str} {ds : List D} (r : ExAt K (NN M z O) H od ns ds) :
    Wd K M H (σ.set i (some (.ref a))) (ρ.set i (.exc a od ns ds)) z (off O i) := w.setv i _ (List.length_set ..) (fun j hj => List.getElem?_set_ne (Ne.symm hj)) fun hi => by
  rw [List.getElem?_set_self (by rw [w.len]; exact hi)]
  exact ⟨rfl, rfl, r.mono ⟨fun a o q _ => q, fun a q => .inl q.off⟩⟩
theorem Wd.unset {K : PySem.W.Frag} {M : Addr → Prop} {H : Hp} {σ : L2.St} {ρ : List Sl} {z : Z} {O : Nat → Option Addr} (w : Wd K M H σ ρ z O) (i : Nat) : Wd K M H (σ.set i none) (ρ.set i .any) z (off O i) :=
  w.setv i _ (List.length_set ..) (fun j hj => List.getElem?_set_ne (Ne.symm hj)) fun _ => rfl
theorem ds_try {n : Str} {c : Value} {i : Nat} {body suite : List Stmt} {b₀ : Stmt} {np pos' : Pos} {tb : DTS} {ts : Addr → Value → Option Addr → DTS} {Wout : WX} (hs : X.stack = X.env :: X.outer) (hf : X.env.frame = some X.env.locals) (hN : X.N.Nodup) (hi : X.N[i]? = some n) (hln : X.env.kindOf n = some .local) (hc : Names X x c) (tk : Takes X Wout)
    (hb : ∀ (W : WX) (pn : List (Addr × Obj)) (xe : Value → Shared → Prop), Takes (X.tr pn xe) W → PassesOwn (model X.prog X.w) X.A X.env xe → DSs (X.tr pn xe) W body tb)
    (hsu : ∀ (a : Addr) (oe : Obj) (cls : Value) (d : Option Addr) (pn : List (Addr × Obj)), Zc cls d oe → (∃ vs, oe.data = .fields vs) → DSs (X.suite a ((a, oe) :: pn)) Wout (b₀ :: suite) (ts a cls d)) :
    DS X Wout (.Try body [.ExceptHandler (some (.Name x np)) (some n) (b₀ :: suite) pos'] [] [] pos) (dTry X.K c i tb ts) := by
  refine ps_to (ps_try_as (tb := fun W => US X.K W tb) (ts := fun a cls d => US X.K Wout (ts a cls d)) hs hf hN hi hln hc tk hb hsu) fun D σ H ⟨M, ρ, z, O, R, w, h, k⟩ => ?_
  refine ⟨M, ρ, z, O, _, w, h, k.nx, k.bk, k.ct, k.rt, fun C ns ds ρ' z' od H' O' σ' ⟨b, e, h1, h2⟩ g w' ex => ⟨b, e, fun hbt a ha => ?_, fun hbf => k.ex C ns ds ρ' z' od H' O' σ' (h2 hbf) g w' ex⟩⟩
  have kk := k.after (g.trans (GoE.off (i := i)).toGo)
  refine ⟨M, _, z', off O' i, _, w'.setx i ex, h1 hbt a od (fun hn e => by subst e; exact hn ex.1), ?_⟩
  exact ⟨fun ρ2 z2 σ2 H2 O2 h g w => kk.nx _ z2 _ H2 _ h (g.trans GoE.off.toGo) (w.unset i), fun ρ2 z2 σ2 H2 O2 h g w => kk.bk _ z2 _ H2 _ h (g.trans GoE.off.toGo) (w.unset i), fun ρ2 z2 σ2 H2 O2 h g w => kk.ct _ z2 _ H2 _ h (g.trans GoE.off.toGo) (w.unset i), kk.rt, kk.ex⟩
/-- e.f of an exception caught -/
def dXf (a : Addr) (cls : Value) (od : Option Addr) (C : Addr) (i : Nat) (f : Str) : DX D := fun ρ z R RX => match ρ[i]? with
  | some (.exc a' od' ns ds) => a' = a ∧ cls = .ref C ∧ od' = od ∧ od ≠ none ∧ ∃ d, ((ns.zip ds).reverse).lookup f = some d ∧ R d ρ z
  | _ => False
theorem lookup_reps_rev {K : PySem.W.Frag} {N : Addr → Prop} {H : Hp} {f : Str} {ns : List Str} {ds : List D} {vs : List V} {d : D} (l : ns.length = ds.length) (r : Reps K N H ds vs) (h : ((ns.zip ds).reverse).lookup f = some d) : ∃ v, ((ns.zip vs).reverse).lookup f = some v ∧ Rep K N H d v := by
  have e : ∀ {α : Type} (ys : List α), ns.length = ys.length → (ns.zip ys).reverse = ns.reverse.zip ys.reverse := fun ys hl => by
    rw [List.zip_eq_zipWith, List.zip_eq_zipWith]
    exact (List.reverse_zipWith (by exact hl))
  rw [e ds l] at h
  rw [e vs (by rw [l, r.length])]
  exact lookup_reps r.reverse h
theorem de_xf {a : Addr} {oe : Obj} {cls : Value} {od : Option Addr} {pn : List (Addr × Obj)} {i : Nat} {f y : Str} {ypos : Pos} (T : XfC X.K C) (hno : PySem.W.findIn X.K (.ref C) f = some none) (hz : Zc cls od oe) (hf : ∃ vs, oe.data = .fields vs)
    (hN : X.N[i]? = some y) (hb : attributeBase (.Name y ypos) f X.env (eval (.Name y ypos) X.env) = eval (.Name y ypos) X.env := by rfl)
    (hv : Vis X.env.scope y := by first | exact Or.inl rfl | exact Or.inr (Or.inl rfl) | exact Or.inr (Or.inr rfl)) (hd : (y == ("__debug__" : Str)) = false := by decide)
    (hcd : (y == ("__classdict__" : Str)) = false := by decide) : DE (X.suite a ((a, oe) :: pn)) W (.Attribute (.Name y ypos) f pos) (dXf a cls od C i f) := by
  have hp : PE (X.suite a ((a, oe) :: pn)) (.Name y ypos) (tVar i) := pe_var (X := X.suite a ((a, oe) :: pn)) hN hv hd hcd
  refine pe_to (pe_xf T hno hz hf hp hb) fun σ H Q ⟨M, ρ, z, O, R, RX, w, h, x, k⟩ => ?_
  unfold dXf at h
  split at h
  · rename_i a' od' ns ds e
    obtain ⟨rfl, rfl, rfl, hod, d, e2, h⟩ := h
    obtain ⟨q1, q2, q3⟩ := w.sl i _ e
    cases od' with
    | none => exact absurd rfl hod
    | some dd =>
      obtain ⟨p1, p2, vs, p3, p4⟩ := q3
      obtain ⟨v, p5, p6⟩ := lookup_reps_rev p2 p4 e2
      exact ⟨_, join_some q2, rfl, rfl, dd, _, v, rfl, p3, p5, k d ρ z v H O h .refl w p6⟩
  · exact h.elim
end
/-! ### defs by their bodies -/
def startD (N : List Str) (ds : List D) : List Sl := ds.map .val ++ List.replicate (N.length - ds.length) .any
theorem Reps.beg {K : PySem.W.Frag} {N : Addr → Prop} {H : Hp} : ∀ {ds : List D} {vs : List V}, Reps K N H ds vs → ∀ (k i : Nat) (s : Sl), (ds.map Sl.val ++ List.replicate k .any)[i]? = some s → SlotOk K N H ((vs.map some ++ List.replicate k none)[i]?.join) s none
  | [], vs, r, k, i, s, h => by
    replace r : Reps K N H [] vs := r
    rw [Reps] at r; subst r
    rw [List.map_nil, List.nil_append, List.getElem?_replicate] at h
    split at h
    · cases h; rfl
    · cases h
  | d :: ds, vs, r, k, 0, s, h => by
    rw [Reps] at r
    obtain ⟨v, q, rfl, r1, r2⟩ := r
    cases h
    exact ⟨rfl, v, rfl, r1⟩
  | d :: ds, vs, r, k, i + 1, s, h => by
    rw [Reps] at r
    obtain ⟨v, q, rfl, r1, r2⟩ := r
    exact Reps.beg r2 k i s h
theorem Go.fxOf {M : Addr → Prop} {H H' : Hp} {z z' : Z} {O' : Nat → Option Addr} (g : Go M H z O0 H' z' O') : ∀ a o, H a = some o → z.p ≠ some a → H' a = some o := fun a o h n => by
  by_cases m : M a
  · exact g.km a o m h
  · refine g.st a o h fun q => ?_
    rcases q with q | q | ⟨i, q⟩
    · exact m q
    · exact n q
    · exact (nomatch q)
theorem Go.finOf {K : PySem.W.Frag} {M : Addr → Prop} {H H' : Hp} {σ : L2.St} {ρ : List Sl} {z z' : Z} {O' : Nat → Option Addr} (g : Go M H z O0 H' z' O') (w : Wd K M H' σ ρ z' O') : Fin M H z H' z' :=
  ⟨w.pot, w.pm, g.zp, g.fxOf, g.al⟩
theorem nn0 {M : Addr → Prop} {z : Z} {O : Nat → Option Addr} {H : Hp} : Ext (NN M z O) H (NN M z O0) H := ⟨fun a o h _ => h, fun a h => .inl (by
  rcases h with h | h | ⟨i, h⟩
  · exact .inl h
  · exact .inr (.inl h)
  · cases h)⟩
section
variable {P : Program} {w : World} {K : PySem.W.Frag} {mg : Str → Option Value} {base : Heap} {k : Nat} {f : Addr} {fd : FuncData} {ps : List Str} {sp : PSp} {isp : ISp} {C : Addr} {x qual : Str} {st : Stmt} {N : List Str}
theorem Wd.beg {M : Addr → Prop} {H : Hp} {z : Z} {ds : List D} {vs : List V} (al : ∀ a, M a → H a ≠ none) (pot : PotOk H z) (pm : ∀ a, z.p = some a → ¬ M a) (r : Reps K (NN M z O0) H ds vs) : Wd K M H (L2.start N vs) (startD N ds) z O0 := by
  refine ⟨?_, al, pot, pm, fun i a h => (nomatch h), fun i s h => ?_, fun i h => rfl⟩
  · unfold L2.start startD
    rw [List.length_append, List.length_append, List.length_map, List.length_map, List.length_replicate, List.length_replicate, r.length]
  · unfold startD at h
    show SlotOk _ _ _ ((vs.map some ++ List.replicate (N.length - vs.length) none)[i]?.join) s none
    rw [← r.length]
    exact r.beg _ i s h
/-- a def that lets no exception out -/
theorem dbody (F : Fun K x qual st f fd) (S : FnScope N ps (defScope st)) (ln : ∀ ds z R RX, sp ds z R RX → ds.length = ps.length)
    (hb : ∀ (cdv : Value) (A : Around) (outer : List Env) (s : Shared) (H : Hp) (E : XK), Room k (A.deeper (envOfC qual (defScope st) s.heap.objs.size f cdv)) → (A.deeper (envOfC qual (defScope st) s.heap.objs.size f cdv)).guards = some [] →
      ∃ t, DSs (cxOf CX0 P w K mg base N qual (defScope st) f cdv A outer s H E).nox W0 (defBody st) t ∧ ∀ ds z R RX, sp ds z R RX → t { nx := fun _ z' => R .non z', rt := R, ex := noX } (startD N ds) z) :
    FnG P w K mg base CX0 (k + 1) f fd ps (lift K sp) := by
  refine gbody F S (fun vs H Q E h => ?_) fun cdv A outer s H vs Q E hr hg h => ?_
  · unfold lift at h
    obtain ⟨M, ds, z, R, RX, _, _, _, r, h, _⟩ := h
    rw [← r.length]; exact ln _ _ _ _ h
  · obtain ⟨t, ht, hh⟩ := hb cdv A outer s H E hr hg
    refine ⟨_, ht, ?_⟩
    unfold lift at h
    obtain ⟨M, ds, z, R, RX, al, pot, pm, r, h, k1, k2⟩ := h
    refine ⟨M, startD N ds, z, O0, _, Wd.beg al pot pm r, hh ds z R RX h, ?_⟩
    refine ⟨fun ρ' z' σ' H' O' h g w => k1 _ z' _ H' h (g.finOf w) .n, fun _ _ _ _ _ h => h.elim, fun _ _ _ _ _ h => h.elim, fun d ρ' z' v σ' H' O' h g w r => k1 d z' v H' h (g.finOf w) (Rep.mono nn0 _ _ r), fun _ _ _ _ _ _ _ _ _ h => h.elim⟩
/-- a def that may raise -/
theorem dbodyX (F : Fun K x qual st f fd) (S : FnScope N ps (defScope st)) (ln : ∀ ds z R RX, sp ds z R RX → ds.length = ps.length)
    (hb : ∀ (cdv : Value) (A : Around) (outer : List Env) (s : Shared) (H : Hp) (E : XK), Room k (A.deeper (envOfC qual (defScope st) s.heap.objs.size f cdv)) → (A.deeper (envOfC qual (defScope st) s.heap.objs.size f cdv)).guards = some [] →
      ∃ t, DSs (cxOf (L2.CX P w) P w K mg base N qual (defScope st) f cdv A outer s H E) (fun cls d _ H => E cls d H) (defBody st) t ∧ ∀ ds z R RX, sp ds z R RX → t { nx := fun _ z' => R .non z', rt := R, ex := fun C ns es _ z' => RX C ns es z' } (startD N ds) z) :
    FnG P w K mg base (L2.CX P w) (k + 1) f fd ps (lift K sp) := by
  refine gbodyX F S (fun vs H Q E h => ?_) fun cdv A outer s H vs Q E hr hg h => ?_
  · unfold lift at h
    obtain ⟨M, ds, z, R, RX, _, _, _, r, h, _⟩ := h
    rw [← r.length]; exact ln _ _ _ _ h
  · obtain ⟨t, ht, hh⟩ := hb cdv A outer s H E hr hg
    refine ⟨_, ht, ?_⟩
    unfold lift at h
    obtain ⟨M, ds, z, R, RX, al, pot, pm, r, h, k1, k2⟩ := h
    refine ⟨M, startD N ds, z, O0, _, Wd.beg al pot pm r, hh ds z R RX h, ?_⟩
    refine ⟨fun ρ' z' σ' H' O' h g w => k1 _ z' _ H' h (g.finOf w) .n, fun _ _ _ _ _ h => h.elim, fun _ _ _ _ _ h => h.elim, fun d ρ' z' v σ' H' O' h g w r => k1 d z' v H' h (g.finOf w) (Rep.mono nn0 _ _ r), fun C ns es ρ' z' od H' O' σ' h g w ex => k2 C ns es z' od H' h (g.finOf w) (ex.mono nn0)⟩
/-! an __init__ -/
def startI (N : List Str) (x C : Addr) (ds : List D) : List Sl := .obj x C [] [] :: (ds.map .val ++ List.replicate (N.length - (ds.length + 1)) .any)
def oneO (x : Addr) : Nat → Option Addr := fun j => if j = 0 then some x else none
theorem NN.one {M : Addr → Prop} {z : Z} {x a : Addr} : NN M z (oneO x) a ↔ NN (Lay.more M x) z O0 a := by
  constructor
  · rintro (h | h | ⟨i, h⟩)
    · exact .inl (.inl h)
    · exact .inr (.inl h)
    · unfold oneO at h
      split at h
      · cases h; exact .inl (.inr rfl)
      · cases h
  · rintro ((h | h) | h | ⟨i, h⟩)
    · exact .inl h
    · exact .inr (.inr ⟨0, by unfold oneO; rw [if_pos rfl, h]⟩)
    · exact .inr (.inl h)
    · cases h
theorem ext_one {M : Addr → Prop} {z : Z} {x : Addr} {H : Hp} : Ext (NN (more M x) z O0) H (NN M z (oneO x)) H := ⟨fun a o h _ => h, fun a h => .inl (NN.one.mp h)⟩
theorem Wd.begI {M : Addr → Prop} {H : Hp} {z : Z} {ds : List D} {vs : List V} {x dx : Addr} (hx : H x = some (.ins C dx [])) (al : ∀ a, M a → H a ≠ none) (nm : ¬ M x) (np : z.p ≠ some x) (pot : PotOk H z) (pm : ∀ a, z.p = some a → ¬ M a) (r : Reps K (NN (more M x) z O0) H ds vs) :
    Wd K M H (L2.start N (.ref x :: vs)) (startI N x C ds) z (oneO x) := by
  have r' := Reps.mono ext_one _ _ r
  have es : L2.start N (.ref x :: vs) = some (.ref x) :: (vs.map some ++ List.replicate (N.length - (ds.length + 1)) none) := by
    unfold L2.start
    rw [List.map_cons, List.cons_append, List.length_cons, r.length]
  refine ⟨?_, al, pot, pm, fun i a h => ?_, fun i s h => ?_, fun i h => ?_⟩
  · rw [es]
    unfold Lay.startI
    rw [List.length_cons, List.length_cons, List.length_append, List.length_append, List.length_map, List.length_map, List.length_replicate, List.length_replicate, r.length]
  · unfold oneO at h
    split at h
    · rename_i hi
      cases h
      refine ⟨nm, np, by rw [hx]; exact Option.some_ne_none _, fun j e => ?_⟩
      unfold oneO at e
      split at e
      · rw [‹j = 0›, hi]
      · cases e
    · cases h
  · rw [es]
    cases i with
    | zero =>
      cases h
      exact ⟨x, dx, [], rfl, rfl, rfl, hx, rfl, .nil⟩
    | succ i =>
      have e : oneO x (i + 1) = none := by unfold oneO; rw [if_neg (by omega)]
      rw [e]
      exact r'.beg _ i s h
  · unfold oneO
    split
    · rename_i hi
      subst hi
      cases h
    · rfl
theorem Go.finI {M : Addr → Prop} {x : Addr} {H H' : Hp} {σ : L2.St} {ρ : List Sl} {z z' : Z} {O' : Nat → Option Addr} (g : Go M H z (oneO x) H' z' O') (w : Wd K M H' σ ρ z' O') (ne : ∀ a, z'.p = some a → a ≠ x) : FinI M x H z H' z' :=
  ⟨w.pot, fun a h => ⟨w.pm a h, ne a h⟩, g.zp, (fun a o h n nx => by
    by_cases m : M a
    · exact g.km a o m h
    · refine g.st a o h fun q => ?_
      rcases NN.one.mp q with (q | q) | q | ⟨i, q⟩
      · exact m q
      · exact nx q
      · exact n q
      · exact (nomatch q)), g.al⟩
theorem nnI {M : Addr → Prop} {x : Addr} {z : Z} {O : Nat → Option Addr} {H : Hp} (h : ∃ i, O i = some x) : Ext (NN M z O) H (NN (more M x) z O0) H := ⟨fun a o h _ => h, fun a q => .inl (by
  rcases q with (q | q) | q | ⟨i, q⟩
  · exact .inl q
  · exact .inr (.inr (by rw [q]; exact h))
  · exact .inr (.inl q)
  · cases q)⟩
theorem obj_at {M : Addr → Prop} {x : Addr} {H : Hp} {σ : L2.St} {ρ : List Sl} {z : Z} {O : Nat → Option Addr} {ns : List Str} {es : List D} (w : Wd K M H σ ρ z O) (h : ρ[0]? = some (.obj x C ns es)) :
    (∃ i, O i = some x) ∧ (∀ a, z.p = some a → a ≠ x) ∧ ∃ dx vs, H x = some (.ins C dx (ns.zip vs)) ∧ ns.length = es.length ∧ Reps K (NN M z O) H es vs := by
  obtain ⟨a, dx, vs, q1, rfl, q2, q3, q4, q5⟩ := w.sl 0 _ h
  exact ⟨⟨0, q1⟩, fun b hb e => (w.ow 0 a q1).2.1 (by rw [← e]; exact hb), dx, vs, q3, q4, q5⟩
theorem ibodyX (F : Fun K x qual st f fd) (S : FnScope N ps (defScope st)) (ln : ∀ ds z R RX, isp ds z R RX → ds.length + 1 = ps.length)
    (hb : ∀ (cdv : Value) (A : Around) (outer : List Env) (s : Shared) (H : Hp) (E : XK), Room k (A.deeper (envOfC qual (defScope st) s.heap.objs.size f cdv)) → (A.deeper (envOfC qual (defScope st) s.heap.objs.size f cdv)).guards = some [] →
      ∃ t, DSs (cxOf (L2.CX P w) P w K mg base N qual (defScope st) f cdv A outer s H E) (fun cls d _ H => E cls d H) (defBody st) t ∧
        ∀ ds z R RX (x : Addr), isp ds z R RX → t { nx := fun ρ z' => ∃ ns es, ρ[0]? = some (.obj x C ns es) ∧ R ns es z', rt := fun _ _ => False, ex := fun Cx ns es ρ z' => (∃ ns' es', ρ[0]? = some (.obj x C ns' es')) ∧ RX Cx ns es z' } (startI N x C ds) z) :
    FnG P w K mg base (L2.CX P w) (k + 1) f fd ps (liftI K C isp) := by
  refine gbodyX F S (fun vs H Q E h => ?_) fun cdv A outer s H vs Q E hr hg h => ?_
  · unfold liftI at h
    obtain ⟨x, dx, us, M, ds, z, R, RX, rfl, _, _, _, _, _, _, r, h, _⟩ := h
    rw [List.length_cons, ← r.length]; exact ln _ _ _ _ h
  · obtain ⟨t, ht, hh⟩ := hb cdv A outer s H E hr hg
    refine ⟨_, ht, ?_⟩
    unfold liftI at h
    obtain ⟨x, dx, us, M, ds, z, R, RX, rfl, hx, al, nm, np, pot, pm, r, h, k1, k2⟩ := h
    refine ⟨M, startI N x C ds, z, oneO x, _, Wd.begI hx al nm np pot pm r, hh ds z R RX x h, ?_⟩
    refine ⟨fun ρ' z' σ' H' O' ⟨ns, es, e, h⟩ g w => ?_, fun _ _ _ _ _ h => h.elim, fun _ _ _ _ _ h => h.elim, fun _ _ _ _ _ _ _ h => h.elim, fun Cx ns es ρ' z' od H' O' σ' ⟨⟨ns', es', e⟩, h⟩ g w ex => ?_⟩
    · obtain ⟨q1, q2, dx', vs, q3, q4, q5⟩ := obj_at w e
      exact k1 ns es z' vs dx' H' h (g.finI w q2) q3 q4 (Reps.mono (nnI q1) _ _ q5)
    · obtain ⟨q1, q2, _⟩ := obj_at w e
      exact k2 Cx ns es z' od H' h (g.finI w q2) (ex.mono (nnI q1))
theorem ibody (F : Fun K x qual st f fd) (S : FnScope N ps (defScope st)) (ln : ∀ ds z R RX, isp ds z R RX → ds.length + 1 = ps.length)
    (hb : ∀ (cdv : Value) (A : Around) (outer : List Env) (s : Shared) (H : Hp) (E : XK), Room k (A.deeper (envOfC qual (defScope st) s.heap.objs.size f cdv)) → (A.deeper (envOfC qual (defScope st) s.heap.objs.size f cdv)).guards = some [] →
      ∃ t, DSs (cxOf CX0 P w K mg base N qual (defScope st) f cdv A outer s H E).nox W0 (defBody st) t ∧
        ∀ ds z R RX (x : Addr), isp ds z R RX → t { nx := fun ρ z' => ∃ ns es, ρ[0]? = some (.obj x C ns es) ∧ R ns es z', rt := fun _ _ => False, ex := noX } (startI N x C ds) z) :
    FnG P w K mg base CX0 (k + 1) f fd ps (liftI K C isp) := by
  refine gbody F S (fun vs H Q E h => ?_) fun cdv A outer s H vs Q E hr hg h => ?_
  · unfold liftI at h
    obtain ⟨x, dx, us, M, ds, z, R, RX, rfl, _, _, _, _, _, _, r, h, _⟩ := h
    rw [List.length_cons, ← r.length]; exact ln _ _ _ _ h
  · obtain ⟨t, ht, hh⟩ := hb cdv A outer s H E hr hg
    refine ⟨_, ht, ?_⟩
    unfold liftI at h
    obtain ⟨x, dx, us, M, ds, z, R, RX, rfl, hx, al, nm, np, pot, pm, r, h, k1, k2⟩ := h
    refine ⟨M, startI N x C ds, z, oneO x, _, Wd.begI hx al nm np pot pm r, hh ds z R RX x h, ?_⟩
    refine ⟨fun ρ' z' σ' H' O' ⟨ns, es, e, h⟩ g w => ?_, fun _ _ _ _ _ h => h.elim, fun _ _ _ _ _ h => h.elim, fun _ _ _ _ _ _ _ h => h.elim, fun _ _ _ _ _ _ _ _ _ h => h.elim⟩
    obtain ⟨q1, q2, dx', vs, q3, q4, q5⟩ := obj_at w e
    exact k1 ns es z' vs dx' H' h (g.finI w q2) q3 q4 (Reps.mono (nnI q1) _ _ q5)
end
/-! ### the law's own call -/
theorem law_d {K : PySem.W.Frag} {H : Hp} {a : Addr} {ns : List Int} {sp : PSp} (hS : SqL K H a (ns.map V.int)) (h : sp [.rol (ns.map .int)] ⟨none, 0⟩ (fun d _ => d = .bl true) noP) : lift K sp [.ref a] H (fun v _ => v = .bl true) E0 := by
  unfold lift
  refine ⟨fun _ => False, [.rol (ns.map .int)], ⟨none, 0⟩, _, _, fun _ h => h.elim, fun a h => (nomatch (show (none : Option Addr) = some a from h)), fun a h => (nomatch (show (none : Option Addr) = some a from h)), .cons ?_ .nil, h, fun d z' v H' hd f r => ?_, fun _ _ _ _ _ _ h => h.elim⟩
  · rw [Rep]
    refine ⟨a, _, rfl, ?_, Reps.ints⟩
    rcases hS with hS | hS
    · refine .inl ⟨?_, hS⟩
      rintro (q | q | ⟨i, q⟩)
      · exact q
      · exact nomatch (show (none : Option Addr) = some a from q)
      · exact nomatch (show (none : Option Addr) = some a from q)
    · exact .inr (.inr hS)
  · subst hd
    exact RepP.bl (z := z') (.inl r)
/-- another promise for the same def -/
theorem FnG.imp {P : Program} {w : World} {K : PySem.W.Frag} {mg : Str → Option Value} {base : Heap} {CX : CXT} {k : Nat} {f : Addr} {fd : FuncData} {ps : List Str} {sp sp' : Sp} (F : FnG P w K mg base CX k f fd ps sp) (h : ∀ vs H Q E, sp' vs H Q E → sp vs H Q E) : FnG P w K mg base CX k f fd ps sp' :=
  ⟨fun vs H Q E q => F.ln vs H Q E (h _ _ _ _ q), fun A outer s H args us vs Q E r g e b v q => F.go A outer s H args us vs Q E r g e b v (h _ _ _ _ q)⟩
end Lay

set_option Elab.async false
set_option linter.all false
set_option maxRecDepth 100000
set_option maxHeartbeats 2000000
namespace Lay
open PySem PySem.Spec PyProof.Rows L2
theorem Rep.t {K : PySem.W.Frag} {N : Addr → Prop} {H : Hp} {n : String} : Rep K N H (.ty n) (.ty n) := by rw [Rep]
section
variable {K : PySem.W.Frag} {M : Addr → Prop} {H H' : Hp} {σ : L2.St} {ρ : List Sl} {z z' : Z} {O O' : Nat → Option Addr} {p : Addr} {o : HO}
theorem Wd.hideS (w : Wd K M H σ ρ z O) (hp : H p = none) (s : Same H H') (hn : H' p ≠ none) : Wd K (Lay.more M p) H' σ ρ z O ∧ GoE M H z O H' z O := by
  obtain ⟨w1, g1⟩ := w.grow s
  have ne : ∀ a, H a ≠ none → a ≠ p := fun a h q => h (by rw [q]; exact hp)
  have ex : Ext (NN M z O) H' (NN (Lay.more M p) z O) H' → True := fun _ => trivial
  have exs : Ext (NN M z O) H (NN (Lay.more M p) z O) H' := ⟨fun a u h _ => s a u h, fun a h => by
    rcases h.more with q | q
    · exact .inl q
    · exact .inr (by rw [q]; exact hp)⟩
  refine ⟨⟨w.len, fun a h => ?_, w1.pot, fun a h m => ?_, fun i a h => ?_, fun i s' h => (w.sl i s' h).mono exs fun a u _ q => s a u q, w.out⟩, g1⟩
  · rcases h with h | h
    · exact w1.al a h
    · rw [h]; exact hn
  · rcases m with m | m
    · exact w.pm a h m
    · exact ne a ((w.pot a h).ne) m
  · obtain ⟨h1, h2, h3, h4⟩ := w.ow i a h
    exact ⟨fun m => m.elim h1 (ne a h3), h2, (w1.ow i a h).2.2.1, h4⟩
theorem Wd.unhide {ds : List D} {vs : List V} (w : Wd K (Lay.more M p) H σ ρ z O) (np : ¬ M p) (i : Nat) (hi : i < ρ.length) (e : H p = some (.lst vs)) (r : Reps K (NN (Lay.more M p) z O) H ds vs) :
    Wd K M H (σ.set i (some (.ref p))) (ρ.set i (.own ds)) z (fun j => if j = i then some p else O j) := by
  have onp : ∀ j, O j ≠ some p := fun j h => (w.ow j p h).1 (.inr rfl)
  have ex : Ext (NN (Lay.more M p) z O) H (NN M z fun j => if j = i then some p else O j) H := ⟨fun a o h _ => h, fun a h => by
    rcases h.on with q | q
    · exact .inl q.less
    · exact .inl (.inl (.inr q))⟩
  refine ⟨by rw [List.length_set, List.length_set]; exact w.len, fun a h => w.al a (.inl h), w.pot, fun a h m => w.pm a h (.inl m), fun j a h => ?_, fun j s h => ?_, fun j h => ?_⟩
  · replace h : (if j = i then some p else O j) = some a := h
    by_cases hj : j = i
    · rw [if_pos hj] at h
      cases h
      refine ⟨np, fun q => w.pm p q (.inr rfl), by rw [e]; exact Option.some_ne_none _, fun l q => ?_⟩
      replace q : (if l = i then some p else O l) = some p := q
      by_cases hl : l = i
      · rw [hl, hj]
      · rw [if_neg hl] at q; exact absurd q (onp l)
    · rw [if_neg hj] at h
      obtain ⟨h1, h2, h3, h4⟩ := w.ow j a h
      refine ⟨fun m => h1 (.inl m), h2, h3, fun l q => ?_⟩
      replace q : (if l = i then some p else O l) = some a := q
      by_cases hl : l = i
      · rw [if_pos hl] at q; cases q; exact absurd h (onp j)
      · rw [if_neg hl] at q; exact h4 l q
  · by_cases hj : j = i
    · subst hj
      rw [List.getElem?_set_self hi] at h
      cases h
      rw [List.getElem?_set_self (by rw [w.len]; exact hi)]
      show SlotOk _ _ _ _ _ (if j = j then some p else O j)
      rw [if_pos rfl]
      exact ⟨p, vs, rfl, rfl, e, Reps.mono ex _ _ r⟩
    · rw [List.getElem?_set_ne (Ne.symm hj)] at h ⊢
      show SlotOk _ _ _ _ _ (if j = i then some p else O j)
      rw [if_neg hj]
      exact (w.sl j s h).mono ex fun a o _ q => q
  · show (if j = i then some p else O j) = none
    by_cases hj : j = i
    · subst hj; rw [List.getElem?_set_self hi] at h; cases h
    · rw [if_neg hj]
      refine w.out j ?_
      rw [List.getElem?_set_ne (Ne.symm hj)] at h; exact h
/-- from a hidden one to a slot of one's own -/
theorem Go.unhide (g : GoE (Lay.more M p) H z O H' z' O') (hp : ∀ H0 : Hp, True) (i : Nat) : ∀ a, NN M z' (fun j => if j = i then some p else O' j) a → NN (Lay.more M p) z O a ∨ H a = none := fun a h => by
  rcases h.on with q | q
  · exact g.nw a q.less
  · exact .inl (.inl (.inr q))
end
section
variable {X : Cx} {W : WX} {a b : Expr} {pos : Pos}
def dPair (i j : Nat) (t1 : DX (List D)) (t2 : DX (List D)) : DTS := fun R ρ z => t1 ρ z (fun xs ρ1 z1 => t2 ρ1 z1 (fun ys ρ2 z2 => i < ρ2.length ∧ j < ρ2.length ∧ R.nx ((ρ2.set i (.own xs)).set j (.own ys)) z2) R.ex) R.ex
theorem ds_pairOO {i j : Nat} {x y : Str} {t1 t2 : DX (List D)} {px py pt : Pos} {kt k2 pt2} (hc : X.calm = true) (hN : X.N.Nodup) (hi : X.N[i]? = some x) (hj : X.N[j]? = some y) (hij : i ≠ j)
    (hx : X.env.scope.names.lookup x = some .local) (hy : X.env.scope.names.lookup y = some .local) (h1 : DN X W a t1) (h2 : DN X W b t2)
    (hw : swappedStores [.Tuple [.Name x px, .Name y py] kt pt] (.Tuple [a, b] k2 pt2) X.env = pure (some [x, y]))
    (hs : swapsWithSole [.Tuple [.Name x px, .Name y py] kt pt] (.Tuple [a, b] k2 pt2) pos.line X.env = pure false := by rfl)
    (he : starEach [a, b] X.env = (false, eval a X.env) :: starEach [b] X.env := by rfl) (he2 : starEach [b] X.env = (false, eval b X.env) :: starEach [] X.env := by rfl) :
    DS X W (.Assign [.Tuple [.Name x px, .Name y py] kt pt] (.Tuple [a, b] k2 pt2) pos) (dPair i j t1 t2) := ps_to (ps_par hc hN hi hj hij hx hy (pa_cons h1 (pa_cons h2 pa_nil he2) he) hw hs) fun D σ H ⟨M, ρ, z, O, R, w, h, k⟩ => by
  refine ⟨M, ρ, z, O, _, R.ex, w, h, k.ex, fun xs ρ1 z1 p1 vs1 H1 H1' O1 h1 g1 w1 s1 n1 e1 r1 => ?_⟩
  have np1 : ¬ M p1 := fun m => w1.al p1 m n1
  obtain ⟨wh, gh⟩ := w1.hideS n1 s1 (by rw [e1]; exact Option.some_ne_none _)
  have rh : Reps X.K (NN (Lay.more M p1) z1 O1) H1' xs vs1 := Reps.mono ⟨fun a u h _ => s1 a u h, fun a h => by
    rcases h.more with q | q
    · exact .inl q
    · exact .inr (by rw [q]; exact n1)⟩ _ _ r1
  -- what is let out on the way leaves the hidden one behind
  have xh : XOk X.K (Lay.more M p1) W H1' z1 O1 R.ex := fun C ns ds ρ' z' od H' O' σ' hx g w' ex => by
    have g0 : Go M H1 z1 O1 H' z' O' := ⟨fun a u h n => g.st a u (s1 a u h) fun q => q.more.elim n fun e => (by rw [e, n1] at h; cases h), fun a u m h => g.km a u (.inl m) (s1 a u h), fun a h => by
      rcases g.nw a h.less with q | q
      · rcases q.more with q | q
        · exact .inl q
        · exact .inr (by rw [q]; exact n1)
      · exact .inr (Classical.byContradiction fun n => by
          cases e : H1 a with
          | none => exact n e
          | some u => rw [s1 a u e] at q; cases q), fun a h => by
      rcases g.zp a h with q | q
      · exact .inl q
      · exact .inr (Classical.byContradiction fun n => by
          cases e : H1 a with
          | none => exact n e
          | some u => rw [s1 a u e] at q; cases q), fun a h => g.al a (gh.al a h)⟩
    have wl : Wd X.K M H' σ' ρ' z' O' := ⟨w'.len, fun a h => w'.al a (.inl h), w'.pot, fun a h m => w'.pm a h (.inl m), fun i a h => let ⟨q1, q2, q3, q4⟩ := w'.ow i a h; ⟨fun m => q1 (.inl m), q2, q3, q4⟩, fun i s h => (w'.sl i s h).mono ⟨fun a o q _ => q, fun a q => .inl q.less⟩ fun _ _ _ q => q, w'.out⟩
    exact k.ex C ns ds ρ' z' od H' O' σ' hx (g1.toGo.trans g0) wl (ex.mono ⟨fun a o q _ => q, fun a q => .inl q.less⟩)
  refine ⟨Lay.more M p1, ρ1, z1, O1, _, R.ex, wh, h1, xh, fun ys ρ2 z2 p2 vs2 H2 H2' O2 ⟨li, lj, h2⟩ g2 w2 s2 n2 e2 r2 => ?_⟩
  have ep1 : H2 p1 = some (.lst vs1) := g2.km p1 _ (.inr rfl) e1
  have wi := w2.unhide np1 i li ep1 (Reps.mono g2.ext _ _ rh)
  have r2' : Reps X.K (NN M z2 fun j => if j = i then some p1 else O2 j) H2 ys vs2 := Reps.mono ⟨fun a o h _ => h, fun a h => by
    rcases h.on with q | q
    · exact .inl q.less
    · exact .inl (.inl (.inr q))⟩ _ _ r2
  obtain ⟨wj, gj⟩ := own_step wi j (by rw [List.length_set]; exact lj) n2 s2 e2 r2'
  refine ⟨_, _, rfl, k.nx _ z2 _ H2' _ h2 ?_ wj⟩
  refine g1.toGo.trans (Go.trans (H1 := H2) ⟨fun a u h n => g2.st a u (s1 a u h) fun q => q.more.elim n fun e => (by rw [e, n1] at h; cases h), fun a u m h => g2.km a u (.inl m) (s1 a u h), fun a h => ?_, fun a h => ?_, fun a h => g2.al a (gh.al a h)⟩ gj)
  · rcases h.on with q | q
    · rcases g2.nw a q.less with q | q
      · rcases q.more with q | q
        · exact .inl q
        · exact .inr (by rw [q]; exact n1)
      · refine .inr (Classical.byContradiction fun n => ?_)
        cases e : H1 a with
        | none => exact n e
        | some u => rw [s1 a u e] at q; cases q
    · exact .inr (by rw [q]; exact n1)
  · rcases g2.zp a h with q | q
    · exact .inl q
    · refine .inr (Classical.byContradiction fun n => ?_)
      cases e : H1 a with
      | none => exact n e
      | some u => rw [s1 a u e] at q; cases q
end
section
variable {X : Cx} {W : WX} {e : Expr} {pos : Pos}
theorem de_fldK {K : PySem.W.Frag} (hK : X.K = K) {t : DX D} {f : Str} (he : DP X W e t) (hb : attributeBase e f X.env (eval e X.env) = eval e X.env) : DE X W (.Attribute e f pos) (dUn (fldD K f) t) := by subst hK; exact de_fld he hb
theorem cd_isiK {K : PySem.W.Frag} (hK : X.K = K) : CallR X (.builtin "isinstance") (CallU X.K (isiD K)) := by subst hK; exact cd_isi
end
theorem cxK {CX : CXT} {P : Program} {w : World} {K : PySem.W.Frag} {mg : Str → Option Value} {base : Heap} {N : List Str} {qual : Str} {scope : Scope} {f : Addr} {cd : Value} {A : Around} {outer : List Env} {s : Shared} {H : Hp} {E : XK} : (cxOf CX P w K mg base N qual scope f cd A outer s H E).K = K := rfl
theorem noxK {X : Cx} : X.nox.K = X.K := rfl
theorem wishK {X : Cx} {E : Value → Shared → Prop} : (X.wish E).K = X.K := rfl
section
variable {X : Cx} {W : WX} {a b : Expr} {pos : Pos} {j k : Nat} {ps : List Str} {sp : PSp} {C : Addr} {D' : Addr → FuncData → Prop} {K : PySem.W.Frag}
theorem Method.dEqK {ta tb : DX D} (hK : X.K = K) (M : Method X.prog X.w X.K X.mg X.base CX0 k C "__eq__" D' ps (lift X.K sp)) (hr : Room j X.A) (hg : X.A.guards = some []) (ha : DE X W a ta) (hb : DE X W b tb) (hj : k ≤ j := by decide) : DE X W (.Compare a [.Eq] [b] pos) (dEqO K C sp id ta tb) := by
  subst hK; exact Method.dEq M hr hg ha hb hj
theorem Method.dNeK {ta tb : DX D} (hK : X.K = K) (M : Method X.prog X.w X.K X.mg X.base CX0 k C "__eq__" D' ps (lift X.K sp)) (N : NoNe X.K C) (hr : Room j X.A) (hg : X.A.guards = some []) (ha : DE X W a ta) (hb : DE X W b tb) (hj : k + 1 ≤ j := by decide) : DE X W (.Compare a [.NotEq] [b] pos) (dEqO K C sp not ta tb) := by
  subst hK; exact Method.dNe M N hr hg ha hb hj
theorem Method.tEqK {ta tb : DX D} (hK : X.K = K) (M : Method X.prog X.w X.K X.mg X.base CX0 k C "__eq__" D' ps (lift X.K sp)) (hr : Room j X.A) (hg : X.A.guards = some []) (ha : DE X W a ta) (hb : DE X W b tb) (hj : k ≤ j := by decide) : DT X W (.Compare a [.Eq] [b] pos) (dTest (dEqO K C sp id ta tb)) := by
  subst hK; exact Method.tEq M hr hg ha hb hj
theorem Method.tNeK {ta tb : DX D} (hK : X.K = K) (M : Method X.prog X.w X.K X.mg X.base CX0 k C "__eq__" D' ps (lift X.K sp)) (N : NoNe X.K C) (hr : Room j X.A) (hg : X.A.guards = some []) (ha : DE X W a ta) (hb : DE X W b tb) (hj : k + 1 ≤ j := by decide) : DT X W (.Compare a [.NotEq] [b] pos) (dTest (dEqO K C sp not ta tb)) := by
  subst hK; exact Method.tNe M N hr hg ha hb hj
end
/-! ### dicts whose keys are constants; a text turned about -/
theorem tPairs_c {σ : L2.St} {H : Hp} {Q : List (V × V) → Hp → Prop} : ∀ kvs : List (Key × V), Q (kvs.map fun kv => (kV kv.1, kv.2)) H → tPairs (kvs.map fun kv => (tC (kV kv.1), tC kv.2)) σ H Q
  | [], h => h
  | kv :: r, h => tPairs_c (Q := fun ps H3 => Q ((kV kv.1, kv.2) :: ps) H3) r h
theorem zip_fs {α β : Type} : ∀ l : List (α × β), (l.map (·.1)).zip (l.map (·.2)) = l
  | [] => rfl
  | a :: l => by rw [List.map_cons, List.map_cons, List.zip_cons_cons, zip_fs l]
section
variable {X : Cx} {W : WX} {e o i : Expr} {pos : Pos}
theorem de_dict0 : DE X W (.Dict [] [] pos) (dC (.dic [] [])) := pe_to pe_dnewK fun σ H Q ⟨M, ρ, z, O, R, RX, w, h, x, k⟩ => fun p hp =>
  k (.dic [] []) ρ z _ _ O h (w.grow (same_new hp)).2 (w.grow (same_new hp)).1 (by show Rep X.K _ _ (.dic [] []) _; rw [Rep]; exact ⟨p, [], rfl, fun n => w.alloc p n hp, upd_same, rfl, Reps.nil⟩)
theorem de_dictC {keys : List (Option Expr)} {values : List Expr} (kvs : List (Key × V)) (ds : List D) (h : PPs X pos keys values (kvs.map fun kv => (tC (kV kv.1), tC kv.2))) (hall : keys.all (·.isSome) = true) (hl : keys.length = values.length) (h0 : keys ≠ []) (h15 : keys.length ≤ 15)
    (hm : mergeK [] kvs = kvs) (hk : kvs.length ≤ 15) (hr : ∀ N H, Reps X.K N H ds (kvs.map (·.2))) : DE X W (.Dict keys values pos) (dC (.dic (kvs.map (·.1)) ds)) :=
  pe_to (pe_disp h hall hl h0 h15) fun σ H Q ⟨M, ρ, z, O, R, RX, w, h, x, k⟩ => fun p hp => tPairs_c kvs ⟨upd_same, kvs, rfl, hk, by
    rw [hm, upd_upd]
    refine k (.dic (kvs.map fun kv : Key × V => kv.1) ds) ρ z _ _ O h (w.grow (same_new hp)).2 (w.grow (same_new hp)).1 ?_
    show Rep X.K _ _ (.dic (kvs.map fun kv : Key × V => kv.1) ds) _
    rw [Rep]
    exact ⟨p, kvs.map (·.2), rfl, fun n => w.alloc p n hp, by rw [zip_fs]; exact upd_same, by rw [List.length_map, (hr (NN M z O) H).length, List.length_map], hr _ _⟩⟩
def lookD : List Key → List D → Key → Option D
  | k :: ks, d :: ds, q => if k = q then some d else lookD ks ds q
  | _, _, _ => none
theorem look_reps {K : PySem.W.Frag} {N : Addr → Prop} {H : Hp} {q : Key} {d : D} : ∀ {ks : List Key} {ds : List D} {vs : List V}, Reps K N H ds vs → lookD ks ds q = some d → ∃ v, valV (ks.zip vs) q = some v ∧ Rep K N H d v
  | [], _, _, _, h => by cases h
  | _ :: _, [], _, _, h => by cases h
  | k :: ks, e :: ds, vs, r, h => by
    rw [Reps] at r
    obtain ⟨v, vr, rfl, r1, r2⟩ := r
    rw [lookD] at h
    unfold valV
    rw [List.zip_cons_cons]
    by_cases hk : k = q
    · rw [if_pos hk] at h
      cases h
      exact ⟨v, by rw [List.find?_cons_of_pos (by exact decide_eq_true hk)]; rfl, r1⟩
    · rw [if_neg hk] at h
      obtain ⟨v2, h2, h3⟩ := look_reps r2 h
      exact ⟨v2, by rw [List.find?_cons_of_neg (by simpa using hk)]; exact h2, h3⟩
def dixD : Op2
  | .dic ks ds, .str s, k => ∃ d, lookD ks ds (.inr s) = some d ∧ k d
  | .dic ks ds, .int s, k => ∃ d, lookD ks ds (.inl s) = some d ∧ k d
  | _, _, _ => False
theorem de_dget {to ti : DX D} (hu : X.A.units + 1 < cLine) (ho : DP X W o to) (hi : DP X W i ti) (hs : NoSl i) : DE X W (.Subscript o i pos) (dOp dixD to ti) := pe_to (pe_dget hu ho hi hs) fun σ H Q h =>
  (UG.op h).weak fun x H1 h1 => h1.weak fun y H2 ⟨N, z, d1, d2, R, al, r1, r2, h, k⟩ => by
    unfold dixD at h
    split at h
    · obtain ⟨d, e, h⟩ := h
      obtain ⟨a, vs, rfl, q1, q2, q3⟩ := r1.dic
      obtain rfl := r2.str
      obtain ⟨v, e1, e2⟩ := look_reps q3 e
      exact ⟨a, v, rfl, .inl ⟨_, _, .inl q1, rfl, e1.symm⟩, k _ _ H2 h same0 e2⟩
    · obtain ⟨d, e, h⟩ := h
      obtain ⟨a, vs, rfl, q1, q2, q3⟩ := r1.dic
      obtain rfl := r2.int
      obtain ⟨v, e1, e2⟩ := look_reps q3 e
      exact ⟨a, v, rfl, .inl ⟨_, _, .inl q1, rfl, e1.symm⟩, k _ _ H2 h same0 e2⟩
    · exact h.elim
def revT (z : Str) : Str := ⟨((Builtin.Str.strSliceIndices none none (-1) z.length).filterMap (z.cps[·]?)).toArray⟩
theorem revT_eq (z : Str) : revT z = ⟨z.cps.toList.reverse.toArray⟩ := by
  unfold revT
  have e : Builtin.Str.strSliceIndices none none (-1) z.length = (List.range z.cps.size).reverse := by
    show sliceRange ((z.cps.size : Int) - 1) (-1) (-1) = _
    rw [PySem.W.krv_sliceRange, PySem.W.krv_range]
  rw [e, List.filterMap_reverse, PySem.W.krv_all]
theorem pe_revS {te : TE} {k : Nat} {p1 p2 p3 : Pos} (he : PE X e te) : PE X (.Subscript e (.Slice none none (some (.UnaryOp .USub (.Constant (.int 1) k p1) p2)) p3) pos)
    (fun σ H Q => te σ H fun x H1 => ∃ z, x = .str z ∧ z.length ≤ sizeLine ∧ Q (.str ⟨z.cps.toList.reverse.toArray⟩) H1) := by
  constructor
  intro pins s σ H Q I h
  refine Subscript_ (thn (he.run pins s σ H _ I h) ?_)
  rintro v s1 ⟨x, H1, I1, r1, z, rfl, hz, q⟩
  obtain ⟨t, rfl⟩ := r1
  have hst : PO X (some (.UnaryOp .USub (.Constant (.int 1) k p1) p2)) (tPart (tUn (rU fun i => .int (-i)) (tC (.int 1)))) := po_some (pe_un un_neg pe_int)
  refine wpAny_Slice (thn (po_none.run pins s1 σ H1 (fun o H2 => o = none ∧ H2 = H1) I1 ⟨rfl, rfl⟩) ?_)
  rintro vl s2 ⟨l, H2, I2, pl, rfl, rfl⟩
  refine thn (po_none.run pins s2 σ H2 (fun o H3 => o = none ∧ H3 = H2) I2 ⟨rfl, rfl⟩) ?_
  rintro vu s3 ⟨u, H3, I3, pu, rfl, rfl⟩
  refine thn (hst.run pins s3 σ H3 (fun o H4 => o = some (-1) ∧ H4 = H3) I3 ⟨1, rfl, -1, rfl, rfl, rfl⟩) ?_
  rintro vs s4 ⟨o, H4, I4, ps, rfl, rfl⟩
  cases pl
  cases pu
  obtain ⟨st, rfl, hst⟩ := IsPart.raw ps
  have I5 : Inv X pins σ H4 { s4 with heap := s4.heap.push { cls := .type "slice", data := .fields #[.none, .none, partValue st] } } :=
    I4.kept (t' := s4.toks) fun b ob q => Heap.get?_push_of_some _ q
  show wpAny (model X.prog X.w) X.A (subscriptTail e (.Slice none none (some (.UnaryOp .USub (.Constant (.int 1) k p1) p2)) p3) (.str z t) (.ref s4.heap.objs.size)) (EP X pins σ Q) X.xe { s4 with heap := s4.heap.push { cls := .type "slice", data := .fields #[.none, .none, partValue st] } }
  refine tail_any (ops := [.str z t, .ref s4.heap.objs.size]) (typeIs_str _ _ _) (F.slot_str_getitem.lookup) ?_ (by with_unfolding_all rfl)
  refine wpAny_getItem_str_slice (l := none) (u := none) (st := st) ⟨_, Heap.get?_push_size _ rfl, rfl, rfl⟩ (by rw [hst]; rfl) ?_
  unfold sliceMade slicePicked
  rw [hst]
  show Made.post (if ((-1 : Int) == 1 && (Builtin.Str.strSliceIndices none none (-1) z.length).length == z.length) = true then Made.val (.str z t) else Made.str (revT z)) (EP X pins σ Q) _
  rw [show ((-1 : Int) == 1) = false from rfl, Bool.false_and, if_neg Bool.false_ne_true]
  rw [← revT_eq] at q
  refine ⟨?_, .str _, H4, I5.tok _, ⟨_, rfl⟩, q⟩
  show (revT z).length ≤ sizeLine
  rw [revT_eq]
  show z.cps.toList.reverse.toArray.size ≤ sizeLine
  rw [List.size_toArray, List.length_reverse, Array.length_toList]
  exact hz
def revSD : D → (D → Prop) → Prop
  | .str z, k => z.length ≤ sizeLine ∧ k (.str ⟨z.cps.toList.reverse.toArray⟩)
  | _, _ => False
theorem de_revS {t : DX D} {k : Nat} {p1 p2 p3 : Pos} (he : DP X W e t) : DE X W (.Subscript e (.Slice none none (some (.UnaryOp .USub (.Constant (.int 1) k p1) p2)) p3) pos) (dUn revSD t) :=
  pe_to (pe_revS he) fun σ H Q ⟨M, ρ, z, O, R, RX, w, h, x, k⟩ => ⟨M, ρ, z, O, _, RX, w, h, x, fun d ρ' z' v H' O' hd g w' r => by
    cases d with
    | str s =>
      obtain rfl := r.str
      exact ⟨s, rfl, hd.1, k (.str _) ρ' z' _ _ O' hd.2 g w' (by show Rep X.K _ _ (.str _) _; rw [Rep])⟩
    | _ => exact hd.elim⟩
def catD : D → D → (List D → Prop) → Prop
  | .lst xs, .lst ys, k => xs.length + ys.length ≤ sizeLine ∧ k (xs ++ ys)
  | _, _, _ => False
def dCat (ta tb : DX D) : DX (List D) := fun ρ z R RX => ta ρ z (fun d1 ρ1 z1 => tb ρ1 z1 (fun d2 ρ2 z2 => catD d1 d2 fun ds => R ds ρ2 z2) RX) RX
theorem cat_at {K : PySem.W.Frag} {N1 N2 : Addr → Prop} {z1 z2 : Z} {H : Hp} {d1 d2 : D} {v1 v2 : V} {k : List D → Prop} (r1 : RepP K N1 z1 H d1 v1) (r2 : RepP K N2 z2 H d2 v2) (h : catD d1 d2 k) :
    ∃ a b xs ys vs ws, v1 = .ref a ∧ v2 = .ref b ∧ H a = some (.lst vs) ∧ H b = some (.lst ws) ∧ vs.length + ws.length ≤ sizeLine ∧ Reps K N1 H xs vs ∧ Reps K N2 H ys ws ∧ k (xs ++ ys) := by
  unfold catD at h
  split at h
  · obtain ⟨a, vs, e1, e2, e3⟩ := r1.lst
    obtain ⟨b, ws, f1, f2, f3⟩ := r2.lst
    exact ⟨a, b, _, _, vs, ws, e1, f1, e2, f2, by rw [← e3.length, ← f3.length]; exact h.1, e3, f3, h.2⟩
  · exact h.elim
theorem dn_add {a b : Expr} {ta tb : DX D} (ha : DP X W a ta) (hb : DP X W b tb) : DN X W (.BinOp a .Add b pos) (dCat ta tb) := pe_to (pe_op op_catN ha hb) fun σ H Q ⟨M, ρ, z, O, R, RX, w, h, x, k⟩ =>
  ⟨M, ρ, z, O, _, RX, w, h, x, fun d1 ρ1 z1 v1 H1 O1 h1 g1 w1 r1 => ⟨M, ρ1, z1, O1, _, RX, w1, h1, x.after g1.toGo, fun d2 ρ2 z2 v2 H2 O2 h2 g2 w2 r2 =>
    let ⟨a, b, xs, ys, vs, ws, e1, e2, e3, e4, e5, e6, e7, e8⟩ := cat_at (r1.mono g2) r2 h2
    ⟨a, b, vs, ws, e1, e2, e3, e4, e5, fun p H' hp s e => k _ ρ2 z2 p _ H2 H' O2 e8 (g1.trans g2) w2 s hp e (e6.append e7)⟩⟩⟩
end
end Lay

set_option Elab.async false
set_option linter.all false
set_option maxRecDepth 100000
set_option maxHeartbeats 2000000
namespace Lay
open PySem PySem.Spec PyProof.Rows L2
/-! ### one step at a time, where the slots are known -/
theorem ap_dVar (i : Nat) (s0 : Sl) (ρ0 : List Sl) (z : Z) (R : D → List Sl → Z → Prop) (RX : KX) : dVar i (s0 :: ρ0) z R RX = (match (s0 :: ρ0)[i]? with
  | some (.val d) => R d (s0 :: ρ0) z
  | some (.own ds) => R (.lst ds) ((s0 :: ρ0).set i (.val (.lst ds))) z
  | _ => False) := rfl
theorem ap_dPeek (i : Nat) (s0 : Sl) (ρ0 : List Sl) (z : Z) (R : D → List Sl → Z → Prop) (RX : KX) : dPeek i (s0 :: ρ0) z R RX = (match (s0 :: ρ0)[i]? with
  | some (.val d) => R d (s0 :: ρ0) z
  | some (.own ds) => R (.lst ds) (s0 :: ρ0) z
  | some (.obj _ C ns ds) => R (.ins C ns ds) (s0 :: ρ0) z
  | some (.exc a _ _ _) => R (.adr a) (s0 :: ρ0) z
  | _ => False) := rfl
theorem ap_dC (d : D) (s0 : Sl) (ρ0 : List Sl) (z : Z) (R : D → List Sl → Z → Prop) (RX : KX) : dC d (s0 :: ρ0) z R RX = (R d (s0 :: ρ0) z) := rfl
theorem ap_dOp (f : Op2) (ta tb : DX D) (s0 : Sl) (ρ0 : List Sl) (z : Z) (R : D → List Sl → Z → Prop) (RX : KX) : dOp f ta tb (s0 :: ρ0) z R RX = (ta (s0 :: ρ0) z (fun d1 ρ1 z1 => tb ρ1 z1 (fun d2 ρ2 z2 => f d1 d2 fun d => R d ρ2 z2) RX) RX) := rfl
theorem ap_dTest (t : DX D) (s0 : Sl) (ρ0 : List Sl) (z : Z) (R : Bool → List Sl → Z → Prop) (RX : KX) : dTest t (s0 :: ρ0) z R RX = (t (s0 :: ρ0) z (fun d ρ' z' => match d with | .bl b => R b ρ' z' | _ => False) RX) := rfl
theorem ap_dChain (f g : Op2) (ta tb tc : DX D) (s0 : Sl) (ρ0 : List Sl) (z : Z) (R : D → List Sl → Z → Prop) (RX : KX) : dChain f g ta tb tc (s0 :: ρ0) z R RX = (ta (s0 :: ρ0) z (fun d1 ρ1 z1 => tb ρ1 z1 (fun d2 ρ2 z2 => f d1 d2 fun d => match d with
  | .bl true => tc ρ2 z2 (fun d3 ρ3 z3 => g d2 d3 fun d => R d ρ3 z3) RX
  | .bl false => R (.bl false) ρ2 z2
  | _ => False) RX) RX) := rfl
theorem ap_dTru (t : DX D) (s0 : Sl) (ρ0 : List Sl) (z : Z) (R : Bool → List Sl → Z → Prop) (RX : KX) : dTru t (s0 :: ρ0) z R RX = (t (s0 :: ρ0) z (fun d ρ' z' => tru d fun b => R b ρ' z') RX) := rfl
theorem ap_dAndB (t u : DX Bool) (s0 : Sl) (ρ0 : List Sl) (z : Z) (R : Bool → List Sl → Z → Prop) (RX : KX) : dAndB t u (s0 :: ρ0) z R RX = (t (s0 :: ρ0) z (fun b ρ1 z1 => if b = true then u ρ1 z1 R RX else R false ρ1 z1) RX) := rfl
theorem ap_dOrB (t u : DX Bool) (s0 : Sl) (ρ0 : List Sl) (z : Z) (R : Bool → List Sl → Z → Prop) (RX : KX) : dOrB t u (s0 :: ρ0) z R RX = (t (s0 :: ρ0) z (fun b ρ1 z1 => if b = true then R true ρ1 z1 else u ρ1 z1 R RX) RX) := rfl
theorem ap_dNotB (t : DX Bool) (s0 : Sl) (ρ0 : List Sl) (z : Z) (R : Bool → List Sl → Z → Prop) (RX : KX) : dNotB t (s0 :: ρ0) z R RX = (t (s0 :: ρ0) z (fun b ρ1 z1 => R (!b) ρ1 z1) RX) := rfl
theorem ap_dAnd (t u : DX D) (s0 : Sl) (ρ0 : List Sl) (z : Z) (R : D → List Sl → Z → Prop) (RX : KX) : dAnd t u (s0 :: ρ0) z R RX = (t (s0 :: ρ0) z (fun d ρ1 z1 => tru d fun b => if b = true then u ρ1 z1 R RX else R d ρ1 z1) RX) := rfl
theorem ap_dOr (t u : DX D) (s0 : Sl) (ρ0 : List Sl) (z : Z) (R : D → List Sl → Z → Prop) (RX : KX) : dOr t u (s0 :: ρ0) z R RX = (t (s0 :: ρ0) z (fun d ρ1 z1 => tru d fun b => if b = true then R d ρ1 z1 else u ρ1 z1 R RX) RX) := rfl
theorem ap_dNot (t : DX D) (s0 : Sl) (ρ0 : List Sl) (z : Z) (R : D → List Sl → Z → Prop) (RX : KX) : dNot t (s0 :: ρ0) z R RX = (t (s0 :: ρ0) z (fun d ρ1 z1 => tru d fun b => R (.bl (!b)) ρ1 z1) RX) := rfl
theorem ap_dNil (s0 : Sl) (ρ0 : List Sl) (z : Z) (R : (List D) → List Sl → Z → Prop) (RX : KX) : dNil  (s0 :: ρ0) z R RX = (R [] (s0 :: ρ0) z) := rfl
theorem ap_dCons (t : DX D) (u : DX (List D)) (s0 : Sl) (ρ0 : List Sl) (z : Z) (R : (List D) → List Sl → Z → Prop) (RX : KX) : dCons t u (s0 :: ρ0) z R RX = (t (s0 :: ρ0) z (fun d ρ1 z1 => u ρ1 z1 (fun ds ρ2 z2 => R (d :: ds) ρ2 z2) RX) RX) := rfl
theorem ap_dTup (t : DX (List D)) (s0 : Sl) (ρ0 : List Sl) (z : Z) (R : D → List Sl → Z → Prop) (RX : KX) : dTup t (s0 :: ρ0) z R RX = (t (s0 :: ρ0) z (fun ds ρ' z' => ds.length ≤ sizeLine ∧ R (.tup ds) ρ' z') RX) := rfl
theorem ap_dLst (t : DX (List D)) (s0 : Sl) (ρ0 : List Sl) (z : Z) (R : D → List Sl → Z → Prop) (RX : KX) : dLst t (s0 :: ρ0) z R RX = (t (s0 :: ρ0) z (fun ds ρ' z' => ds.length ≤ sizeLine ∧ R (.lst ds) ρ' z') RX) := rfl
theorem ap_dLet (t : DX (List D)) (s0 : Sl) (ρ0 : List Sl) (z : Z) (R : D → List Sl → Z → Prop) (RX : KX) : dLet t (s0 :: ρ0) z R RX = (t (s0 :: ρ0) z (fun ds ρ' z' => R (.lst ds) ρ' z') RX) := rfl
theorem ap_dSized (t : DX (List D)) (s0 : Sl) (ρ0 : List Sl) (z : Z) (R : (List D) → List Sl → Z → Prop) (RX : KX) : dSized t (s0 :: ρ0) z R RX = (t (s0 :: ρ0) z (fun ds ρ' z' => ds.length ≤ sizeLine ∧ R ds ρ' z') RX) := rfl
theorem ap_dUn (f : D → (D → Prop) → Prop) (t : DX D) (s0 : Sl) (ρ0 : List Sl) (z : Z) (R : D → List Sl → Z → Prop) (RX : KX) : dUn f t (s0 :: ρ0) z R RX = (t (s0 :: ρ0) z (fun d ρ' z' => f d fun r => R r ρ' z') RX) := rfl
theorem ap_dNoPart (s0 : Sl) (ρ0 : List Sl) (z : Z) (R : (Option Int) → List Sl → Z → Prop) (RX : KX) : dNoPart  (s0 :: ρ0) z R RX = (R none (s0 :: ρ0) z) := rfl
theorem ap_dPart (t : DX D) (s0 : Sl) (ρ0 : List Sl) (z : Z) (R : (Option Int) → List Sl → Z → Prop) (RX : KX) : dPart t (s0 :: ρ0) z R RX = (t (s0 :: ρ0) z (fun d ρ' z' => match d with | .int i => R (some i) ρ' z' | _ => False) RX) := rfl
theorem ap_dSl (f : D → Option Int → Option Int → (D → Prop) → Prop) (t : DX D) (tl th : DX (Option Int)) (s0 : Sl) (ρ0 : List Sl) (z : Z) (R : D → List Sl → Z → Prop) (RX : KX) : dSl f t tl th (s0 :: ρ0) z R RX = (t (s0 :: ρ0) z (fun d ρ1 z1 => tl ρ1 z1 (fun l ρ2 z2 => th ρ2 z2 (fun u ρ3 z3 => f d l u fun r => R r ρ3 z3) RX) RX) RX) := rfl
theorem ap_dFn (f : FnD) (t : DX (List D)) (s0 : Sl) (ρ0 : List Sl) (z : Z) (R : D → List Sl → Z → Prop) (RX : KX) : dFn f t (s0 :: ρ0) z R RX = (t (s0 :: ρ0) z (fun ds ρ' z' => f ds fun d => R d ρ' z') RX) := rfl
theorem ap_dMt (f : FnS) (to : DX D) (t : DX (List D)) (s0 : Sl) (ρ0 : List Sl) (z : Z) (R : D → List Sl → Z → Prop) (RX : KX) : dMt f to t (s0 :: ρ0) z R RX = (to (s0 :: ρ0) z (fun d ρ1 z1 => ∃ y, d = .str y ∧ t ρ1 z1 (fun ds ρ2 z2 => f y ds fun r => R r ρ2 z2) RX) RX) := rfl
theorem ap_dMt0 (f : FnS) (to : DX D) (s0 : Sl) (ρ0 : List Sl) (z : Z) (R : D → List Sl → Z → Prop) (RX : KX) : dMt0 f to (s0 :: ρ0) z R RX = (to (s0 :: ρ0) z (fun d ρ1 z1 => ∃ y, d = .str y ∧ f y [] fun r => R r ρ1 z1) RX) := rfl
theorem ap_dFs (s : Str) (s0 : Sl) (ρ0 : List Sl) (z : Z) (R : Str → List Sl → Z → Prop) (RX : KX) : dFs s (s0 :: ρ0) z R RX = (R s (s0 :: ρ0) z) := rfl
theorem ap_dFmt (t : DX D) (s0 : Sl) (ρ0 : List Sl) (z : Z) (R : Str → List Sl → Z → Prop) (RX : KX) : dFmt t (s0 :: ρ0) z R RX = (t (s0 :: ρ0) z (fun d ρ' z' => fmtD d fun s => R s ρ' z') RX) := rfl
theorem ap_dJoin (t : DX Str) (s0 : Sl) (ρ0 : List Sl) (z : Z) (R : D → List Sl → Z → Prop) (RX : KX) : dJoin t (s0 :: ρ0) z R RX = (t (s0 :: ρ0) z (fun y ρ' z' => R (.str y) ρ' z') RX) := rfl
theorem ap_dNext (s0 : Sl) (ρ0 : List Sl) (z : Z) (R : DEnds) : dNext  R (s0 :: ρ0) z = (R.nx (s0 :: ρ0) z) := rfl
theorem ap_dSeq (t u : DTS) (s0 : Sl) (ρ0 : List Sl) (z : Z) (R : DEnds) : dSeq t u R (s0 :: ρ0) z = (t { R with nx := u R } (s0 :: ρ0) z) := rfl
theorem ap_dDrop (t : DX D) (s0 : Sl) (ρ0 : List Sl) (z : Z) (R : DEnds) : dDrop t R (s0 :: ρ0) z = (t (s0 :: ρ0) z (fun _ ρ' z' => R.nx ρ' z') R.ex) := rfl
theorem ap_dRet (t : DX D) (s0 : Sl) (ρ0 : List Sl) (z : Z) (R : DEnds) : dRet t R (s0 :: ρ0) z = (t (s0 :: ρ0) z (fun d _ z' => R.rt d z') R.ex) := rfl
theorem ap_dIf (c : DX Bool) (t u : DTS) (s0 : Sl) (ρ0 : List Sl) (z : Z) (R : DEnds) : dIf c t u R (s0 :: ρ0) z = (c (s0 :: ρ0) z (fun b ρ' z' => if b = true then t R ρ' z' else u R ρ' z') R.ex) := rfl
theorem ap_dAsg (t : DX D) (g : DTG) (s0 : Sl) (ρ0 : List Sl) (z : Z) (R : DEnds) : dAsg t g R (s0 :: ρ0) z = (t (s0 :: ρ0) z (fun d ρ' z' => g d ρ' z' R.nx) R.ex) := rfl
theorem ap_dSet (i : Nat) (t : DX D) (s0 : Sl) (ρ0 : List Sl) (z : Z) (R : DEnds) : dSet i t R (s0 :: ρ0) z = (t (s0 :: ρ0) z (fun d ρ' z' => R.nx (ρ'.set i (.val d)) z') R.ex) := rfl
theorem ap_dOwn (i : Nat) (t : DX (List D)) (s0 : Sl) (ρ0 : List Sl) (z : Z) (R : DEnds) : dOwn i t R (s0 :: ρ0) z = (t (s0 :: ρ0) z (fun ds ρ' z' => i < ρ'.length ∧ R.nx (ρ'.set i (.own ds)) z') R.ex) := rfl
theorem ap_dAppend (i : Nat) (t : DX D) (s0 : Sl) (ρ0 : List Sl) (z : Z) (R : DEnds) : dAppend i t R (s0 :: ρ0) z = (∃ ds0, (s0 :: ρ0)[i]? = some (.own ds0) ∧ t (s0 :: ρ0) z (fun d ρ' z' => match ρ'[i]? with | some (.own ds) => ds.length < sizeLine ∧ R.nx (ρ'.set i (.own (ds ++ [d]))) z' | _ => False) R.ex) := rfl
theorem ap_dAug (i : Nat) (f : Op2) (t : DX D) (s0 : Sl) (ρ0 : List Sl) (z : Z) (R : DEnds) : dAug i f t R (s0 :: ρ0) z = (∃ x, (s0 :: ρ0)[i]? = some (.val x) ∧ t (s0 :: ρ0) z (fun y ρ' z' => f x y fun r => R.nx (ρ'.set i (.val r)) z') R.ex) := rfl
theorem ap_dFldS (K : PySem.W.Frag) (i : Nat) (f : Str) (t : DX D) (s0 : Sl) (ρ0 : List Sl) (z : Z) (R : DEnds) : dFldS K i f t R (s0 :: ρ0) z = (t (s0 :: ρ0) z (fun d ρ' z' => match ρ'[i]? with
  | some (.obj x C ns ds) => AttrOk K C f ∧ ns.length < 1000 ∧ f ∉ ns ∧ R.nx (ρ'.set i (.obj x C (ns ++ [f]) (ds ++ [d]))) z'
  | _ => False) R.ex) := rfl
theorem ap_dPar (i j : Nat) (t : DX (List D)) (s0 : Sl) (ρ0 : List Sl) (z : Z) (R : DEnds) : dPar i j t R (s0 :: ρ0) z = (t (s0 :: ρ0) z (fun ds ρ' z' => match ds with | [x, y] => R.nx ((ρ'.set i (.val x)).set j (.val y)) z' | _ => False) R.ex) := rfl
theorem ap_dPar3 (i j l : Nat) (t : DX (List D)) (s0 : Sl) (ρ0 : List Sl) (z : Z) (R : DEnds) : dPar3 i j l t R (s0 :: ρ0) z = (t (s0 :: ρ0) z (fun ds ρ' z' => match ds with | [x, y, u] => R.nx (((ρ'.set i (.val x)).set j (.val y)).set l (.val u)) z' | _ => False) R.ex) := rfl
theorem ap_dIt (t : DX D) (s0 : Sl) (ρ0 : List Sl) (z : Z) (R : (List D) → List Sl → Z → Prop) (RX : KX) : dIt t (s0 :: ρ0) z R RX = (t (s0 :: ρ0) z (fun d ρ' z' => iterD d fun ds => R ds ρ' z') RX) := rfl
theorem ap_dItA (f : List D → (List D → Prop) → Prop) (t : DX (List D)) (s0 : Sl) (ρ0 : List Sl) (z : Z) (R : (List D) → List Sl → Z → Prop) (RX : KX) : dItA f t (s0 :: ρ0) z R RX = (t (s0 :: ρ0) z (fun ds ρ' z' => f ds fun es => R es ρ' z') RX) := rfl
theorem ap_dFor (t : DX (List D)) (g : DTG) (tb : DTS) (s0 : Sl) (ρ0 : List Sl) (z : Z) (R : DEnds) : dFor t g tb R (s0 :: ρ0) z = (t (s0 :: ρ0) z (fun ds ρ' z' => forD g tb ds R ρ' z') R.ex) := rfl
theorem ap_dLc (t : DX (List D)) (g : DTG) (tt : DX Bool) (te : DX D) (vs : List Nat) (s0 : Sl) (ρ0 : List Sl) (z : Z) (R : (List D) → List Sl → Z → Prop) (RX : KX) : dLc t g tt te vs (s0 :: ρ0) z R RX = (t (s0 :: ρ0) z (fun ds ρ' z' => lcD g tt te vs ds [] (wipeD ρ' vs) z' R) RX) := rfl
theorem ap_dYes (s0 : Sl) (ρ0 : List Sl) (z : Z) (R : Bool → List Sl → Z → Prop) (RX : KX) : dYes  (s0 :: ρ0) z R RX = (R true (s0 :: ρ0) z) := rfl
theorem ap_dCall (sp : PSp) (t : DX (List D)) (s0 : Sl) (ρ0 : List Sl) (z : Z) (R : D → List Sl → Z → Prop) (RX : KX) : dCall sp t (s0 :: ρ0) z R RX = (t (s0 :: ρ0) z (fun ds ρ' z' => sp ds z' (fun d z2 => R d ρ' z2) (fun C ns es z2 => RX C ns es ρ' z2)) RX) := rfl
theorem ap_dCall0 (sp : PSp) (t : DX (List D)) (s0 : Sl) (ρ0 : List Sl) (z : Z) (R : D → List Sl → Z → Prop) (RX : KX) : dCall0 sp t (s0 :: ρ0) z R RX = (t (s0 :: ρ0) z (fun ds ρ' z' => sp ds z' (fun d z2 => R d ρ' z2) noP) RX) := rfl
theorem ap_dCallKw (n m : Nat) (gD : List D → List D → List D) (sp : PSp) (t tk : DX (List D)) (s0 : Sl) (ρ0 : List Sl) (z : Z) (R : D → List Sl → Z → Prop) (RX : KX) : dCallKw n m gD sp t tk (s0 :: ρ0) z R RX = (t (s0 :: ρ0) z (fun ds ρ1 z1 => tk ρ1 z1 (fun es ρ2 z2 => ds.length = n ∧ es.length = m ∧ sp (gD ds es) z2 (fun d z3 => R d ρ2 z3) (fun C ns es z3 => RX C ns es ρ2 z3)) RX) RX) := rfl
theorem ap_dCallKw0 (n m : Nat) (gD : List D → List D → List D) (sp : PSp) (t tk : DX (List D)) (s0 : Sl) (ρ0 : List Sl) (z : Z) (R : D → List Sl → Z → Prop) (RX : KX) : dCallKw0 n m gD sp t tk (s0 :: ρ0) z R RX = (t (s0 :: ρ0) z (fun ds ρ1 z1 => tk ρ1 z1 (fun es ρ2 z2 => ds.length = n ∧ es.length = m ∧ sp (gD ds es) z2 (fun d z3 => R d ρ2 z3) noP) RX) RX) := rfl
theorem ap_dMeth (C : Addr) (m : Str) (sp : PSp) (to : DX D) (t : DX (List D)) (s0 : Sl) (ρ0 : List Sl) (z : Z) (R : D → List Sl → Z → Prop) (RX : KX) : dMeth C m sp to t (s0 :: ρ0) z R RX = (to (s0 :: ρ0) z (fun d ρ1 z1 => (∃ ns ds, d = .ins C ns ds ∧ m ∉ ns) ∧ t ρ1 z1 (fun es ρ2 z2 => sp (d :: es) z2 (fun r z3 => R r ρ2 z3) (fun C ns es z3 => RX C ns es ρ2 z3)) RX) RX) := rfl
theorem ap_dMeth0 (C : Addr) (m : Str) (sp : PSp) (to : DX D) (t : DX (List D)) (s0 : Sl) (ρ0 : List Sl) (z : Z) (R : D → List Sl → Z → Prop) (RX : KX) : dMeth0 C m sp to t (s0 :: ρ0) z R RX = (to (s0 :: ρ0) z (fun d ρ1 z1 => (∃ ns ds, d = .ins C ns ds ∧ m ∉ ns) ∧ t ρ1 z1 (fun es ρ2 z2 => sp (d :: es) z2 (fun r z3 => R r ρ2 z3) noP) RX) RX) := rfl
theorem ap_dMethKw (C : Addr) (m : Str) (n mm : Nat) (gD : List D → List D → List D) (sp : PSp) (to : DX D) (t tk : DX (List D)) (s0 : Sl) (ρ0 : List Sl) (z : Z) (R : D → List Sl → Z → Prop) (RX : KX) : dMethKw C m n mm gD sp to t tk (s0 :: ρ0) z R RX = (to (s0 :: ρ0) z (fun d ρ1 z1 => (∃ ns ds, d = .ins C ns ds ∧ m ∉ ns) ∧ t ρ1 z1 (fun es ρ2 z2 => tk ρ2 z2 (fun fs ρ3 z3 => es.length = n ∧ fs.length = mm ∧
  sp (gD (d :: es) fs) z3 (fun r z4 => R r ρ3 z4) noP) RX) RX) RX) := rfl
theorem ap_dOne (C : Addr) (sp : PSp) (c : D → Prop) (t : DX D) (s0 : Sl) (ρ0 : List Sl) (z : Z) (R : D → List Sl → Z → Prop) (RX : KX) : dOne C sp c t (s0 :: ρ0) z R RX = (t (s0 :: ρ0) z (fun d ρ1 z1 => (∃ ns ds, d = .ins C ns ds) ∧ sp [d] z1 (fun r z2 => c r ∧ R r ρ1 z2) noP) RX) := rfl
theorem ap_dFmtO (C : Addr) (sp : PSp) (t : DX D) (s0 : Sl) (ρ0 : List Sl) (z : Z) (R : Str → List Sl → Z → Prop) (RX : KX) : dFmtO C sp t (s0 :: ρ0) z R RX = (t (s0 :: ρ0) z (fun d ρ1 z1 => (∃ ns ds, d = .ins C ns ds) ∧ sp [d] z1 (fun r z2 => match r with | .str y => R y ρ1 z2 | _ => False) noP) RX) := rfl
theorem ap_dEqO (K : PySem.W.Frag) (C : Addr) (sp : PSp) (f : Bool → Bool) (ta tb : DX D) (s0 : Sl) (ρ0 : List Sl) (z : Z) (R : D → List Sl → Z → Prop) (RX : KX) : dEqO K C sp f ta tb (s0 :: ρ0) z R RX = (ta (s0 :: ρ0) z (fun d1 ρ1 z1 => tb ρ1 z1 (fun d2 ρ2 z2 => (∃ ns ds, d1 = .ins C ns ds) ∧ (∃ t, tyD K d2 t ∧ PySem.W.notFirst K C t = true) ∧
  sp [d1, d2] z2 (fun r z3 => match r with | .bl b => R (.bl (f b)) ρ2 z3 | _ => False) noP) RX) RX) := rfl
theorem ap_dReqO (C : Addr) (sp : PSp) (ta tb : DX D) (s0 : Sl) (ρ0 : List Sl) (z : Z) (R : D → List Sl → Z → Prop) (RX : KX) : dReqO C sp ta tb (s0 :: ρ0) z R RX = (ta (s0 :: ρ0) z (fun d1 ρ1 z1 => tb ρ1 z1 (fun d2 ρ2 z2 => (∃ ns ds, d2 = .ins C ns ds) ∧ plainD d1 ∧
  sp [d2, d1] z2 (fun r z3 => match r with | .bl b => R (.bl b) ρ2 z3 | _ => False) noP) RX) RX) := rfl
theorem ap_dMake (C : Addr) (isp : ISp) (t : DX (List D)) (s0 : Sl) (ρ0 : List Sl) (z : Z) (R : D → List Sl → Z → Prop) (RX : KX) : dMake C isp t (s0 :: ρ0) z R RX = (t (s0 :: ρ0) z (fun ds ρ' z' => isp ds z' (fun ns es z2 => R (.ins C ns es) ρ' z2) (fun Cx ns es z2 => RX Cx ns es ρ' z2)) RX) := rfl
theorem ap_dMake0 (C : Addr) (isp : ISp) (t : DX (List D)) (s0 : Sl) (ρ0 : List Sl) (z : Z) (R : D → List Sl → Z → Prop) (RX : KX) : dMake0 C isp t (s0 :: ρ0) z R RX = (t (s0 :: ρ0) z (fun ds ρ' z' => isp ds z' (fun ns es z2 => R (.ins C ns es) ρ' z2) noP) RX) := rfl
theorem ap_dMakeKw (C : Addr) (n m : Nat) (gD : List D → List D → List D) (isp : ISp) (t tk : DX (List D)) (s0 : Sl) (ρ0 : List Sl) (z : Z) (R : D → List Sl → Z → Prop) (RX : KX) : dMakeKw C n m gD isp t tk (s0 :: ρ0) z R RX = (t (s0 :: ρ0) z (fun ds ρ1 z1 => tk ρ1 z1 (fun es ρ2 z2 => ds.length = n ∧ es.length = m ∧
  isp (gD ds es) z2 (fun ns es z3 => R (.ins C ns es) ρ2 z3) (fun Cx ns es z3 => RX Cx ns es ρ2 z3)) RX) RX) := rfl
theorem ap_dMakeKw0 (C : Addr) (n m : Nat) (gD : List D → List D → List D) (isp : ISp) (t tk : DX (List D)) (s0 : Sl) (ρ0 : List Sl) (z : Z) (R : D → List Sl → Z → Prop) (RX : KX) : dMakeKw0 C n m gD isp t tk (s0 :: ρ0) z R RX = (t (s0 :: ρ0) z (fun ds ρ1 z1 => tk ρ1 z1 (fun es ρ2 z2 => ds.length = n ∧ es.length = m ∧
  isp (gD ds es) z2 (fun ns es z3 => R (.ins C ns es) ρ2 z3) noP) RX) RX) := rfl
theorem ap_dRaise (C : Addr) (fn : List Str) (t : DX (List D)) (s0 : Sl) (ρ0 : List Sl) (z : Z) (R : DEnds) : dRaise C fn t R (s0 :: ρ0) z = (t (s0 :: ρ0) z (fun ds ρ' z' => ds.length = fn.length ∧ ds.length ≤ 1000 ∧ R.ex C fn ds ρ' z') R.ex) := rfl
theorem ap_dPair (i j : Nat) (t1 : DX (List D)) (t2 : DX (List D)) (s0 : Sl) (ρ0 : List Sl) (z : Z) (R : DEnds) : dPair i j t1 t2 R (s0 :: ρ0) z = (t1 (s0 :: ρ0) z (fun xs ρ1 z1 => t2 ρ1 z1 (fun ys ρ2 z2 => i < ρ2.length ∧ j < ρ2.length ∧ R.nx ((ρ2.set i (.own xs)).set j (.own ys)) z2) R.ex) R.ex) := rfl
theorem ap_dCat (ta tb : DX D) (s0 : Sl) (ρ0 : List Sl) (z : Z) (R : (List D) → List Sl → Z → Prop) (RX : KX) : dCat ta tb (s0 :: ρ0) z R RX = (ta (s0 :: ρ0) z (fun d1 ρ1 z1 => tb ρ1 z1 (fun d2 ρ2 z2 => catD d1 d2 fun ds => R ds ρ2 z2) RX) RX) := rfl
theorem e_tru1 : ∀ k, tru  D.non k = (k false) := by intros; rfl
theorem e_tru2 : ∀ b k, tru  (D.bl b) k = (k b) := by intros; rfl
theorem e_tru3 : ∀ i k, tru  (D.int i) k = (k (i != 0)) := by intros; rfl
theorem e_tru4 : ∀ z k, tru  (D.str z) k = (z.length ≤ sizeLine ∧ k ((z.length : Int) != 0)) := by intros; rfl
theorem e_tru5 : ∀ ds k, tru  (D.lst ds) k = (k (!ds.isEmpty)) := by intros; rfl
theorem e_tru6 : ∀ ds k, tru  (D.rol ds) k = (k (!ds.isEmpty)) := by intros; rfl
theorem e_tru7 : ∀ ds k, tru  (D.tup ds) k = (k (!ds.isEmpty)) := by intros; rfl
theorem e_fmtD1 : ∀ y k, fmtD  (D.str y) k = (y.length ≤ sizeLine ∧ k y) := by intros; rfl
theorem e_fmtD2 : ∀ i k, fmtD  (D.int i) k = (i.natAbs.log2 < 1920 ∧ k (toString i)) := by intros; rfl
theorem e_iterD1 : ∀ ds k, iterD  (D.lst ds) k = (k ds) := by intros; rfl
theorem e_iterD2 : ∀ ds k, iterD  (D.rol ds) k = (k ds) := by intros; rfl
theorem e_iterD3 : ∀ ds k, iterD  (D.tup ds) k = (k ds) := by intros; rfl
theorem e_iterD4 : ∀ z k, iterD  (D.str z) k = (k (signsD z)) := by intros; rfl
theorem e_addD1 : ∀ i j k, addD  (D.int i) (D.int j) k = (k (.int (i + j))) := by intros; rfl
theorem e_addD2 : ∀ i j k, addD  (D.str i) (D.str j) k = (i.length + j.length ≤ sizeLine ∧ k (.str (i ++ j))) := by intros; rfl
theorem e_addD3 : ∀ xs ys k, addD  (D.lst xs) (D.lst ys) k = (xs.length + ys.length ≤ sizeLine ∧ k (.lst (xs ++ ys))) := by intros; rfl
theorem e_addD4 : ∀ xs ys k, addD  (D.tup xs) (D.tup ys) k = (xs.length + ys.length ≤ sizeLine ∧ k (.tup (xs ++ ys))) := by intros; rfl
theorem e_subD1 : ∀ i j k, subD  (D.int i) (D.int j) k = (k (.int (i - j))) := by intros; rfl
theorem e_mulD1 : ∀ i j k, mulD  (D.int i) (D.int j) k = (CMulW i j ∧ k (.int (i * j))) := by intros; rfl
theorem e_mulD2 : ∀ xs j k, mulD  (D.lst xs) (D.int j) k = (-(2 ^ 63) ≤ j ∧ j < 2 ^ 63 ∧ xs.length * j.toNat ≤ sizeLine ∧ k (.lst (List.replicate j.toNat xs).flatten)) := by intros; rfl
theorem e_mulD3 : ∀ i j k, mulD  (D.str i) (D.int j) k = (MulOk i j ∧ k (.str (Txt.mul i j))) := by intros; rfl
theorem e_fdivD1 : ∀ i j k, fdivD  (D.int i) (D.int j) k = (j.natAbs.log2 < 9000 ∧ if 0 < j then k (.int (i / j)) else j ≠ 0 ∧ k (.int (i.fdiv j))) := by intros; rfl
theorem e_modD1 : ∀ i j k, modD  (D.int i) (D.int j) k = (0 < j ∧ k (.int (i % j))) := by intros; rfl
theorem e_powD1 : ∀ i j k, powD  (D.int i) (D.int j) k = (CPow i j ∧ k (.int (i ^ j.toNat))) := by intros; rfl
theorem e_cmpD1 (f : Int → Int → Bool) (g : List Nat → List Nat → Bool) : ∀ i j k, cmpD f g (D.int i) (D.int j) k = (k (.bl (f i j))) := by intros; rfl
theorem e_cmpD2 (f : Int → Int → Bool) (g : List Nat → List Nat → Bool) : ∀ i j k, cmpD f g (D.str i) (D.str j) k = (k (.bl (g i.cps.toList j.cps.toList))) := by intros; rfl
theorem e_eqD1 (f : Bool → Bool) : ∀ i j k, eqD f (D.int i) (D.int j) k = (k (.bl (f (decide (i = j))))) := by intros; rfl
theorem e_eqD2 (f : Bool → Bool) : ∀ i j k, eqD f (D.str i) (D.str j) k = (k (.bl (f (decide (i = j))))) := by intros; rfl
theorem e_eqD3 (f : Bool → Bool) : ∀ i j k, eqD f (D.bl i) (D.bl j) k = (k (.bl (f (decide (i = j))))) := by intros; rfl
theorem e_eqD4 (f : Bool → Bool) : ∀ k, eqD f D.non D.non k = (k (.bl (f true))) := by intros; rfl
theorem e_eqD5 (f : Bool → Bool) : ∀ v1 k, eqD f D.non (D.int v1) k = (k (.bl (f false))) := by intros; rfl
theorem e_eqD6 (f : Bool → Bool) : ∀ v1 k, eqD f D.non (D.str v1) k = (k (.bl (f false))) := by intros; rfl
theorem e_eqD7 (f : Bool → Bool) : ∀ v1 k, eqD f D.non (D.bl v1) k = (k (.bl (f false))) := by intros; rfl
theorem e_eqD8 (f : Bool → Bool) : ∀ v1 k, eqD f (D.int v1) D.non k = (k (.bl (f false))) := by intros; rfl
theorem e_eqD9 (f : Bool → Bool) : ∀ v1 k, eqD f (D.str v1) D.non k = (k (.bl (f false))) := by intros; rfl
theorem e_eqD10 (f : Bool → Bool) : ∀ v1 k, eqD f (D.bl v1) D.non k = (k (.bl (f false))) := by intros; rfl
theorem e_eqD11 (f : Bool → Bool) : ∀ v1 v2 k, eqD f (D.int v1) (D.str v2) k = (k (.bl (f false))) := by intros; rfl
theorem e_eqD12 (f : Bool → Bool) : ∀ v1 v2 k, eqD f (D.str v1) (D.int v2) k = (k (.bl (f false))) := by intros; rfl
theorem e_eqD13 (f : Bool → Bool) : ∀ v1 v2 k, eqD f (D.bl v1) (D.str v2) k = (k (.bl (f false))) := by intros; rfl
theorem e_eqD14 (f : Bool → Bool) : ∀ v1 v2 k, eqD f (D.str v1) (D.bl v2) k = (k (.bl (f false))) := by intros; rfl
theorem e_isNonD1 : isNonD  D.non = (true) := by intros; rfl
theorem e_negD1 : ∀ i k, negD  (D.int i) k = (k (.int (-i))) := by intros; rfl
theorem e_ixD1 : ∀ ds i k, ixD  (D.lst ds) (D.int i) k = (∃ d, atI ds i = some d ∧ k d) := by intros; rfl
theorem e_ixD2 : ∀ ds i k, ixD  (D.rol ds) (D.int i) k = (∃ d, atI ds i = some d ∧ k d) := by intros; rfl
theorem e_ixD3 : ∀ ds i k, ixD  (D.tup ds) (D.int i) k = (∃ d, atI ds i = some d ∧ k d) := by intros; rfl
theorem e_ixD4 : ∀ z i k, ixD  (D.str z) (D.int i) k = (z.length ≤ sizeLine ∧ ∃ c, atI z.cps.toList i = some c ∧ k (.str ⟨#[c]⟩)) := by intros; rfl
theorem e_slD1 : ∀ ds lo hi k, slD  (D.lst ds) lo hi k = (k (.lst (cutL ds lo hi))) := by intros; rfl
theorem e_slD2 : ∀ ds lo hi k, slD  (D.rol ds) lo hi k = (k (.lst (cutL ds lo hi))) := by intros; rfl
theorem e_slD3 : ∀ ds lo hi k, slD  (D.tup ds) lo hi k = (k (.tup (cutL ds lo hi))) := by intros; rfl
theorem e_slD4 : ∀ z lo hi k, slD  (D.str z) lo hi k = (z.length ≤ sizeLine ∧ k (.str (cutS z lo hi))) := by intros; rfl
theorem e_lenD1 : ∀ z k, lenD  [D.str z] k = (z.length ≤ sizeLine ∧ k (.int z.length)) := by intros; rfl
theorem e_lenD2 : ∀ ds k, lenD  [D.lst ds] k = (k (.int ds.length)) := by intros; rfl
theorem e_lenD3 : ∀ ds k, lenD  [D.rol ds] k = (k (.int ds.length)) := by intros; rfl
theorem e_lenD4 : ∀ ds k, lenD  [D.tup ds] k = (k (.int ds.length)) := by intros; rfl
theorem e_absD1 : ∀ i k, absD  [D.int i] k = (k (.int (if i < 0 then -i else i))) := by intros; rfl
theorem e_mmD1 (f : Int → Int → Int) : ∀ i j k, mmD f [D.int i, D.int j] k = (k (.int (f i j))) := by intros; rfl
theorem e_intD1 : ∀ i k, intD  [D.int i] k = (k (.int i)) := by intros; rfl
theorem e_intD2 : ∀ b k, intD  [D.bl b] k = (k (.int (if b then 1 else 0))) := by intros; rfl
theorem e_intD3 : ∀ z k, intD  [D.str z] k = (∃ n, PySem.intText? z = some n ∧ z.length ≤ 640 ∧ k (.int n)) := by intros; rfl
theorem e_strD1 : ∀ i k, strD  [D.int i] k = (i.natAbs.log2 < 1920 ∧ k (.str (toString i))) := by intros; rfl
theorem e_strD2 : ∀ z k, strD  [D.str z] k = (k (.str z)) := by intros; rfl
theorem e_tupleD1 : ∀ ds k, tupleD  [D.lst ds] k = (k (.tup ds)) := by intros; rfl
theorem e_tupleD2 : ∀ ds k, tupleD  [D.rol ds] k = (k (.tup ds)) := by intros; rfl
theorem e_tupleD3 : ∀ ds k, tupleD  [D.tup ds] k = (k (.tup ds)) := by intros; rfl
theorem e_listD1 : ∀ ds k, listD  [D.lst ds] k = (k (.lst ds)) := by intros; rfl
theorem e_listD2 : ∀ ds k, listD  [D.rol ds] k = (k (.lst ds)) := by intros; rfl
theorem e_listD3 : ∀ ds k, listD  [D.tup ds] k = (k (.lst ds)) := by intros; rfl
theorem e_splitD1 : ∀ z y k, splitD  z [D.str y] k = ((y.length == 0) = false ∧ z.length + 2 ≤ sizeLine ∧ k (.lst ((Txt.split z y).map .str))) := by intros; rfl
theorem e_joinD1 : ∀ z ds k, joinD  z [D.lst ds] k = (∃ ys : List Str, ds = ys.map .str ∧ (ys.map (·.length)).sum + ys.length * z.length ≤ 16777216 ∧ k (.str (Txt.join z ys))) := by intros; rfl
theorem e_joinD2 : ∀ z ds k, joinD  z [D.tup ds] k = (∃ ys : List Str, ds = ys.map .str ∧ (ys.map (·.length)).sum + ys.length * z.length ≤ 16777216 ∧ k (.str (Txt.join z ys))) := by intros; rfl
theorem e_str1D1 (C : Str → Str → Prop) (g : Str → Str → D) : ∀ z y k, str1D C g z [D.str y] k = (C z y ∧ k (g z y)) := by intros; rfl
theorem e_iaddD1 : ∀ i j k, iaddD  (D.int i) (D.int j) k = (k (.int (i + j))) := by intros; rfl
theorem e_iaddD2 : ∀ i j k, iaddD  (D.str i) (D.str j) k = (i.length + j.length ≤ sizeLine ∧ k (.str (i ++ j))) := by intros; rfl
theorem e_imulD1 : ∀ i j k, imulD  (D.int i) (D.int j) k = (CMulW i j ∧ k (.int (i * j))) := by intros; rfl
theorem e_ifdivD1 : ∀ i j k, ifdivD  (D.int i) (D.int j) k = (CDivW i j ∧ k (.int (i / j))) := by intros; rfl
theorem e_enumD1 : ∀ ds k, enumD  [D.lst ds] k = (k (ds.mapIdx fun i d => .tup [.int i, d])) := by intros; rfl
theorem e_enumD2 : ∀ ds k, enumD  [D.rol ds] k = (k (ds.mapIdx fun i d => .tup [.int i, d])) := by intros; rfl
theorem e_zipF1 : ∀ xs ys k, zipF  [D.lst xs, D.lst ys] k = (k (zipD xs ys)) := by intros; rfl
theorem e_zipF2 : ∀ xs ys k, zipF  [D.tup xs, D.tup ys] k = (k (zipD xs ys)) := by intros; rfl
theorem e_rng11 : ∀ j k, rng1  [D.int j] k = (-(2 ^ 62) ≤ j ∧ j < 2 ^ 62 ∧ k (rngD 0 j.toNat)) := by intros; rfl
theorem e_rng21 : ∀ i j k, rng2  [D.int i, D.int j] k = ((-(2 ^ 62) ≤ i ∧ i < 2 ^ 62 ∧ -(2 ^ 62) ≤ j ∧ j < 2 ^ 62) ∧ k (rngD i (j - i).toNat)) := by intros; rfl
theorem e_rng31 : ∀ i j c k, rng3  [D.int i, D.int j, D.int c] k = (c = -1 ∧ (-(2 ^ 62) ≤ i ∧ i < 2 ^ 62 ∧ -(2 ^ 62) ≤ j ∧ j < 2 ^ 62) ∧ k (rngC i (-1) (i - j).toNat)) := by intros; rfl
theorem e_fldD1 (K : PySem.W.Frag) (f : Str) : ∀ ns ds k, fldD K f (D.ins C ns ds) k = (AttrOk K C f ∧ ∃ d, (ns.zip ds).lookup f = some d ∧ k d) := by intros; rfl
theorem e_dixD1 : ∀ ks ds s k, dixD  (D.dic ks ds) (D.str s) k = (∃ d, lookD ks ds (.inr s) = some d ∧ k d) := by intros; rfl
theorem e_dixD2 : ∀ ks ds s k, dixD  (D.dic ks ds) (D.int s) k = (∃ d, lookD ks ds (.inl s) = some d ∧ k d) := by intros; rfl
theorem e_revSD1 : ∀ z k, revSD  (D.str z) k = (z.length ≤ sizeLine ∧ k (.str ⟨z.cps.toList.reverse.toArray⟩)) := by intros; rfl
theorem e_catD1 : ∀ xs ys k, catD  (D.lst xs) (D.lst ys) k = (xs.length + ys.length ≤ sizeLine ∧ k (xs ++ ys)) := by intros; rfl
theorem ap_dJs0 (acc : Str) (s : Sl) (ρ : List Sl) (z : Z) (R : Str → List Sl → Z → Prop) (RX : KX) : dJs [] acc (s :: ρ) z R RX = R acc (s :: ρ) z := rfl
theorem ap_dJs1 (t : DX Str) (ts : List (DX Str)) (acc : Str) (s : Sl) (ρ : List Sl) (z : Z) (R : Str → List Sl → Z → Prop) (RX : KX) : dJs (t :: ts) acc (s :: ρ) z R RX = t (s :: ρ) z (fun y ρ' z' => (acc ++ y).length ≤ sizeLine ∧ dJs ts (acc ++ y) ρ' z' R RX) RX := rfl
theorem ap_dTry (K : PySem.W.Frag) (c : Value) (i : Nat) (body : DTS) (suite : Addr → Value → Option Addr → DTS) (R : DEnds) (s0 : Sl) (ρ0 : List Sl) (z : Z) : dTry K c i body suite R (s0 :: ρ0) z = body { nx := R.nx, rt := R.rt, bk := R.bk, ct := R.ct, ex := fun C ns ds ρ' z' => ∃ b, PySem.W.exmOne K (.ref C) c = some b ∧
  (b = true → ∀ a od, (ns ≠ [] → od ≠ none) → suite a (.ref C) od { nx := fun ρ2 z2 => R.nx (ρ2.set i .any) z2, rt := R.rt, bk := fun ρ2 z2 => R.bk (ρ2.set i .any) z2, ct := fun ρ2 z2 => R.ct (ρ2.set i .any) z2, ex := R.ex } (ρ'.set i (.exc a od ns ds)) z') ∧ (b = false → R.ex C ns ds ρ' z') } (s0 :: ρ0) z := rfl
theorem ap_dXf (a : Addr) (cls : Value) (od : Option Addr) (C : Addr) (i : Nat) (f : Str) (s0 : Sl) (ρ0 : List Sl) (z : Z) (R : D → List Sl → Z → Prop) (RX : KX) : dXf a cls od C i f (s0 :: ρ0) z R RX = match (s0 :: ρ0)[i]? with
  | some (.exc a' od' ns ds) => a' = a ∧ cls = .ref C ∧ od' = od ∧ od ≠ none ∧ ∃ d, ((ns.zip ds).reverse).lookup f = some d ∧ R d (s0 :: ρ0) z
  | _ => False := rfl
theorem ex_obj1 (x C : Addr) (a : List Str) (b : List D) : (∃ ns es, Sl.obj x C a b = Sl.obj x C ns es) = True := eq_true ⟨a, b, rfl⟩
theorem ex_obj2 (x C : Addr) (a : List Str) (b : List D) (p : List Str → List D → Prop) : (∃ ns es, Sl.obj x C a b = Sl.obj x C ns es ∧ p ns es) = p a b := propext ⟨fun ⟨ns, es, e, h⟩ => by cases e; exact h, fun h => ⟨a, b, rfl, h⟩⟩
theorem ex_ins1 (C : Addr) (a : List Str) (b : List D) : (∃ ns es, D.ins C a b = D.ins C ns es) = True := eq_true ⟨a, b, rfl⟩
theorem ex_ins2 (C : Addr) (a : List Str) (b : List D) (p : List Str → Prop) : (∃ ns es, D.ins C a b = D.ins C ns es ∧ p ns) = p a := propext ⟨fun ⟨ns, es, e, h⟩ => by cases e; exact h, fun h => ⟨a, b, rfl, h⟩⟩
theorem ex_str (a : Str) (p : Str → Prop) : (∃ y, D.str a = D.str y ∧ p y) = p a := propext ⟨fun ⟨y, e, h⟩ => by cases e; exact h, fun h => ⟨a, rfl, h⟩⟩
theorem ex_own (a : List D) (p : Prop) : (∃ ds, Sl.own a = Sl.own ds ∧ p) = p := propext ⟨fun ⟨_, _, h⟩ => h, fun h => ⟨a, rfl, h⟩⟩
theorem ex_val (a : D) (p : D → Prop) : (∃ d, Sl.val a = Sl.val d ∧ p d) = p a := propext ⟨fun ⟨d, e, h⟩ => by cases e; exact h, fun h => ⟨a, rfl, h⟩⟩
theorem fld_of {K : PySem.W.Frag} {C : Addr} {f : Str} {ns : List Str} {ds : List D} {d : D} {k : D → Prop} (h : AttrOk K C f) (e : (ns.zip ds).lookup f = some d) : fldD K f (.ins C ns ds) k = k d :=
  propext ⟨fun ⟨_, d', e', q⟩ => by rw [e] at e'; cases e'; exact q, fun q => ⟨h, d, e, q⟩⟩
theorem mulw_s {i j : Int} (h1 : -1000000000000000000000000000000 ≤ i) (h2 : i ≤ 1000000000000000000000000000000) (h3 : -1000000000000000000000000000000 ≤ j) (h4 : j ≤ 1000000000000000000000000000000) : CMulW i j :=
  wide_mul (a := 100) (b := 100) (Nat.lt_of_le_of_lt (show i.natAbs ≤ 1000000000000000000000000000000 by omega) (by decide)) (Nat.lt_of_le_of_lt (show j.natAbs ≤ 1000000000000000000000000000000 by omega) (by decide)) (by decide) (by decide) (by decide)
theorem ap_ix0 (a : D) (r : List D) (k : D → Prop) : (∃ d, atI (a :: r) 0 = some d ∧ k d) = k a := by
  have e : atI (a :: r) 0 = some a := atI_nat (j := 0) rfl
  rw [e]
  exact propext ⟨fun ⟨d, e, h⟩ => by cases e; exact h, fun h => ⟨a, rfl, h⟩⟩
theorem ap_ix1 (a b : D) (r : List D) (k : D → Prop) : (∃ d, atI (a :: b :: r) 1 = some d ∧ k d) = k b := by
  have e : atI (a :: b :: r) 1 = some b := atI_nat (j := 1) rfl
  rw [e]
  exact propext ⟨fun ⟨d, e, h⟩ => by cases e; exact h, fun h => ⟨b, rfl, h⟩⟩
theorem ap_ix2 (a b c : D) (r : List D) (k : D → Prop) : (∃ d, atI (a :: b :: c :: r) 2 = some d ∧ k d) = k c := by
  have e : atI (a :: b :: c :: r) 2 = some c := atI_nat (j := 2) rfl
  rw [e]
  exact propext ⟨fun ⟨d, e, h⟩ => by cases e; exact h, fun h => ⟨c, rfl, h⟩⟩
theorem e_lenOk (n : Int) : lenOk (.int n) = (0 ≤ n ∧ n < 2 ^ 63) := rfl
theorem e_isStr (z : Str) : isStr (.str z) = True := rfl
theorem le_sz0 : (0 ≤ sizeLine) = True := eq_true (Nat.zero_le _)
theorem le_sz1 : (1 ≤ sizeLine) = True := eq_true (by decide)
theorem le_sz2 : (2 ≤ sizeLine) = True := eq_true (by decide)
theorem le_sz3 : (3 ≤ sizeLine) = True := eq_true (by decide)
theorem le_sz4 : (4 ≤ sizeLine) = True := eq_true (by decide)
theorem le_sz5 : (5 ≤ sizeLine) = True := eq_true (by decide)
theorem le_sz6 : (6 ≤ sizeLine) = True := eq_true (by decide)
theorem le_sz7 : (7 ≤ sizeLine) = True := eq_true (by decide)
theorem le_sz8 : (8 ≤ sizeLine) = True := eq_true (by decide)
theorem ap_dIfE {α : Type} (c : DX Bool) (t u : DX α) (s0 : Sl) (ρ0 : List Sl) (z : Z) (R : α → List Sl → Z → Prop) (RX : KX) : dIfE c t u (s0 :: ρ0) z R RX = c (s0 :: ρ0) z (fun b ρ1 z1 => if b = true then t ρ1 z1 R RX else u ρ1 z1 R RX) RX := rfl
theorem ap_isD (f : Bool → Bool) (d : D) (k : D → Prop) : isD f d .non k = k (.bl (f (isNonD d))) := by unfold isD; simp only [true_and]
theorem ap_in1 (f : Bool → Bool) (i j : Str) (k : D → Prop) : inD f (.str i) (.str j) k = k (.bl (f (!(Builtin.Str.occurrences j i 0 j.length 1).isEmpty))) := rfl
theorem ap_in2 (f : Bool → Bool) (d : D) (es : List D) (k : D → Prop) : inD f d (.lst es) k = ∃ v vs, toV d = some v ∧ toVs es = some vs ∧ k (.bl (f (inV v vs))) := by cases d <;> rfl
theorem ap_in3 (f : Bool → Bool) (d : D) (es : List D) (k : D → Prop) : inD f d (.tup es) k = ∃ v vs, toV d = some v ∧ toVs es = some vs ∧ k (.bl (f (inV v vs))) := by cases d <;> rfl
theorem ap_isi (K : PySem.W.Frag) (d c : D) (k : D → Prop) : isiD K [d, c] k = ∃ t u b, tyD K d t ∧ clsD c = some u ∧ PySem.W.kitOne K t u = some b ∧ k (.bl b) := rfl
theorem ap_repr (d : D) (k : D → Prop) : reprD [d] k = ∃ p, dat d = some p ∧ p.showable = true ∧ SeqAt.shaped p = true ∧ p.shown.length ≤ sizeLine ∧ k (.str p.shown) := rfl
theorem ap_sum (ds : List D) (k : D → Prop) : sumD [.lst ds] k = ∃ ns : List Int, ds = ns.map D.int ∧ k (.int ns.sum) := rfl
theorem ap_any (f : List Bool → Bool) (ds : List D) (k : D → Prop) : anyD f [.lst ds] k = ∃ bs : List Bool, ds = bs.map D.bl ∧ k (.bl (f bs)) := rfl
theorem ap_dgName (i : Nat) (d : D) (s : Sl) (ρ : List Sl) (z : Z) (R : List Sl → Z → Prop) : dgName i d (s :: ρ) z R = R ((s :: ρ).set i (.val d)) z := rfl
theorem ap_dgTup (n : Nat) (gs : DTGs) (ds : List D) (s : Sl) (ρ : List Sl) (z : Z) (R : List Sl → Z → Prop) : dgTup n gs (.tup ds) (s :: ρ) z R = (ds.length = n ∧ gs ds (s :: ρ) z R) := rfl
theorem ap_dgCons (g : DTG) (gs : DTGs) (d : D) (r : List D) (s : Sl) (ρ : List Sl) (z : Z) (R : List Sl → Z → Prop) : dgCons g gs (d :: r) (s :: ρ) z R = g d (s :: ρ) z (fun ρ' z' => gs r ρ' z' R) := rfl
theorem ap_dgNil (ds : List D) (s : Sl) (ρ : List Sl) (z : Z) (R : List Sl → Z → Prop) : dgNil ds (s :: ρ) z R = (ds = [] ∧ R (s :: ρ) z) := rfl
end Lay

set_option Elab.async false
set_option linter.all false
set_option maxRecDepth 100000
set_option maxHeartbeats 2000000
namespace Lay
open PySem PySem.Spec PyProof.Rows L2
/-! ### data: shown, compared -/
mutual
def okD : D → Prop
  | .non => True
  | .bl _ => True
  | .int i => i.natAbs.log2 < 1920
  | .str z => z.cps.all (· < 0x110000) = true
  | .tup ds => okDs ds
  | .lst ds => okDs ds
  | _ => False
def okDs : List D → Prop
  | [] => True
  | d :: ds => okD d ∧ okDs ds
end
mutual
def bulkD : D → Nat
  | .str z => z.cps.size
  | .tup ds => bulkDs ds
  | .lst ds => bulkDs ds
  | _ => 0
def bulkDs : List D → Nat
  | [] => 0
  | d :: ds => bulkD d + 1 + bulkDs ds
end
mutual
def deepD : D → Nat
  | .tup ds => deepDs ds + 1
  | .lst ds => deepDs ds + 1
  | _ => 0
def deepDs : List D → Nat
  | [] => 0
  | d :: ds => max (deepD d) (deepDs ds)
end
mutual
def noBl : D → Prop
  | .bl _ => False
  | .tup ds => noBls ds
  | .lst ds => noBls ds
  | _ => True
def noBls : List D → Prop
  | [] => True
  | d :: ds => noBl d ∧ noBls ds
end
structure DatOk (d : D) (p : PyData) : Prop where
  e : dat d = some p
  sh : p.showable = true
  cl : p.canLay0 = true
  ls : p.leavesShort 2000 = true
  bk : p.bulk = bulkD d
  dp : p.depth = deepD d
structure DatsOk (d : List D) (p : List PyData) : Prop where
  e : dats d = some p
  sh : PyData.showableAll p = true
  cl : PyData.canLayAll0 p = true
  ls : PyData.leavesShortAll 2000 p = true
  bk : PyData.bulkAll p = bulkDs d
  dp : PyData.depthAll p = deepDs d
mutual
theorem okD.ok : ∀ d : D, okD d → ∃ p, DatOk d p
  | .non, _ => ⟨.none, by rw [dat], rfl, rfl, rfl, rfl, rfl⟩
  | .bl b, _ => ⟨.bool b, by rw [dat], rfl, rfl, rfl, rfl, rfl⟩
  | .int i, h => by
    rw [okD] at h
    exact ⟨.int i, by rw [dat], by simpa only [PyData.showable, decide_eq_true_eq] using h, rfl, int_short h, by rw [PyData.bulk, bulkD] <;> simp, by rw [PyData.depth, deepD] <;> simp⟩
  | .str z, h => by
    rw [okD] at h
    refine ⟨.str z, by rw [dat], rfl, by simpa only [PyData.canLay0, PyData.strOk] using h, ?_, by rw [PyData.bulk, bulkD], by rw [PyData.depth, deepD] <;> simp⟩
    rw [PyData.leavesShort, List.all_eq_true]
    intro c hc
    have := (Array.all_eq_true_iff_forall_mem.mp h) c (Array.mem_toList_iff.mp hc)
    simp only [decide_eq_true_eq] at this ⊢
    exact Nat.lt_trans this (by decide)
  | .tup ds, h => by
    rw [okD] at h
    obtain ⟨ps, q⟩ := okDs.ok ds h
    exact ⟨.tuple ps, by rw [dat, q.e]; rfl, by rw [PyData.showable]; exact q.sh, by rw [PyData.canLay0]; exact q.cl, by rw [PyData.leavesShort]; exact q.ls, by rw [PyData.bulk, bulkD]; exact q.bk, by rw [PyData.depth, deepD, q.dp]⟩
  | .lst ds, h => by
    rw [okD] at h
    obtain ⟨ps, q⟩ := okDs.ok ds h
    exact ⟨.list ps, by rw [dat, q.e]; rfl, by rw [PyData.showable]; exact q.sh, by rw [PyData.canLay0]; exact q.cl, by rw [PyData.leavesShort]; exact q.ls, by rw [PyData.bulk, bulkD]; exact q.bk, by rw [PyData.depth, deepD, q.dp]⟩
  | .adr _, h | .ty _, h | .rol _, h | .ins _ _ _, h => by simp [okD] at h
theorem okDs.ok : ∀ ds : List D, okDs ds → ∃ p, DatsOk ds p
  | [], _ => ⟨[], by rw [dats], rfl, rfl, rfl, rfl, rfl⟩
  | d :: ds, h => by
    rw [okDs] at h
    obtain ⟨p, q⟩ := okD.ok d h.1
    obtain ⟨ps, qs⟩ := okDs.ok ds h.2
    refine ⟨p :: ps, by rw [dats, q.e, qs.e]; rfl, ?_, ?_, ?_, ?_, ?_⟩
    · rw [PyData.showableAll, q.sh, qs.sh]; rfl
    · rw [PyData.canLayAll0, q.cl, qs.cl]; rfl
    · rw [PyData.leavesShortAll, q.ls, qs.ls]; rfl
    · rw [PyData.bulkAll, bulkDs, q.bk, qs.bk]
    · rw [PyData.depthAll, deepDs, q.dp, qs.dp]
end
/-- what repr shows -/
def showD (d : D) : Str := match dat d with
  | some p => p.shown
  | none => Str.empty
theorem use_repr {d : D} {k : D → Prop} (h : okD d) (hb : bulkD d ≤ 8000) (hd : deepD d ≤ 64) (q : k (.str (showD d))) : reprD [d] k := by
  obtain ⟨p, P⟩ := okD.ok d h
  refine ⟨p, P.e, P.sh, by unfold SeqAt.shaped; rw [P.cl, P.dp, decide_eq_true hd]; rfl, shown_small P.ls (by rw [P.bk]; exact hb), ?_⟩
  unfold showD at q
  rw [P.e] at q
  exact q
theorem use_reprI {i : Int} {k : D → Prop} (h : i.natAbs.log2 < 1920) (q : k (.str (showD (.int i)))) : reprD [.int i] k := use_repr (by rw [okD]; exact h) (by rw [bulkD] <;> simp) (by rw [deepD] <;> simp) q
def kindP : PyData → Nat
  | .none => 0 | .bool _ => 1 | .int _ => 2 | .str _ => 3 | .list _ => 4 | .tuple _ => 5 | .dict _ => 6
def kindD : D → Nat
  | .non => 0 | .bl _ => 1 | .int _ => 2 | .str _ => 3 | .lst _ => 4 | .rol _ => 4 | .tup _ => 5 | _ => 9
theorem eqv_kind (p q : PyData) (h1 : kindP p ≠ 1) (h2 : kindP q ≠ 1) (h : PyData.eqv p q = true) : kindP p = kindP q := by
  cases p <;> cases q <;> first | rfl | (exact absurd rfl h1) | (exact absurd rfl h2) | (simp [PyData.eqv] at h)
theorem dat_kind {d : D} {p : PyData} (h : dat d = some p) : kindP p = kindD d := by
  cases d with
  | non => rw [dat] at h; cases h; rfl
  | bl b => rw [dat] at h; cases h; rfl
  | int b => rw [dat] at h; cases h; rfl
  | str b => rw [dat] at h; cases h; rfl
  | tup ds => rw [dat] at h; obtain ⟨ps, _, rfl⟩ := Option.map_eq_some_iff.mp h; rfl
  | lst ds => rw [dat] at h; obtain ⟨ps, _, rfl⟩ := Option.map_eq_some_iff.mp h; rfl
  | rol ds => rw [dat] at h; obtain ⟨ps, _, rfl⟩ := Option.map_eq_some_iff.mp h; rfl
  | adr a => simp [dat] at h
  | ty a => simp [dat] at h
  | ins C ns ds => simp [dat] at h
  | exn C ns ds => simp [dat] at h
  | dic ks ds => simp [dat] at h
theorem noBl_kind {d : D} (h : noBl d) : kindD d ≠ 1 := by
  cases d <;> simp [noBl, kindD] at h ⊢
mutual
theorem eqv_eq : ∀ (d e : D) (p q : PyData), noBl d → noBl e → dat d = some p → dat e = some q → okD d → okD e → PyData.eqv p q = true → d = e := fun d e p q h1 h2 h3 h4 h5 h6 h => by
  have k := eqv_kind p q (by rw [dat_kind h3]; exact noBl_kind h1) (by rw [dat_kind h4]; exact noBl_kind h2) h
  rw [dat_kind h3, dat_kind h4] at k
  match d, e, h1, h2, h3, h4, h5, h6, k with
  | .non, .non, _, _, _, _, _, _, _ => rfl
  | .int i, .int j, _, _, h3, h4, _, _, _ =>
    rw [dat] at h3 h4
    cases h3; cases h4
    rw [PyData.eqv, beq_iff_eq] at h
    rw [h]
  | .str i, .str j, _, _, h3, h4, _, _, _ =>
    rw [dat] at h3 h4
    cases h3; cases h4
    rw [PyData.eqv, beq_iff_eq] at h
    rw [h]
  | .tup ds, .tup es, h1, h2, h3, h4, h5, h6, _ =>
    rw [dat] at h3 h4
    obtain ⟨ps, e1, rfl⟩ := Option.map_eq_some_iff.mp h3
    obtain ⟨qs, e2, rfl⟩ := Option.map_eq_some_iff.mp h4
    rw [noBl] at h1 h2
    rw [okD] at h5 h6
    rw [PyData.eqv] at h
    rw [eqvs_eq ds es ps qs h1 h2 e1 e2 h5 h6 h]
  | .lst ds, .lst es, h1, h2, h3, h4, h5, h6, _ =>
    rw [dat] at h3 h4
    obtain ⟨ps, e1, rfl⟩ := Option.map_eq_some_iff.mp h3
    obtain ⟨qs, e2, rfl⟩ := Option.map_eq_some_iff.mp h4
    rw [noBl] at h1 h2
    rw [okD] at h5 h6
    rw [PyData.eqv] at h
    rw [eqvs_eq ds es ps qs h1 h2 e1 e2 h5 h6 h]
theorem eqvs_eq : ∀ (ds es : List D) (ps qs : List PyData), noBls ds → noBls es → dats ds = some ps → dats es = some qs → okDs ds → okDs es → PyData.eqvAll ps qs = true → ds = es
  | [], [], _, _, _, _, _, _, _, _, _ => rfl
  | [], e :: es, ps, qs, _, _, h3, h4, _, _, h => by
    rw [dats] at h3
    cases h3
    rw [dats] at h4
    obtain ⟨q, _, e2⟩ := Option.bind_eq_some_iff.mp h4
    obtain ⟨qs', _, rfl⟩ := Option.map_eq_some_iff.mp e2
    simp [PyData.eqvAll] at h
  | d :: ds, [], ps, qs, _, _, h3, h4, _, _, h => by
    rw [dats] at h4
    cases h4
    rw [dats] at h3
    obtain ⟨q, _, e2⟩ := Option.bind_eq_some_iff.mp h3
    obtain ⟨qs', _, rfl⟩ := Option.map_eq_some_iff.mp e2
    simp [PyData.eqvAll] at h
  | d :: ds, e :: es, ps, qs, h1, h2, h3, h4, h5, h6, h => by
    rw [dats] at h3 h4
    obtain ⟨p, a1, a2⟩ := Option.bind_eq_some_iff.mp h3
    obtain ⟨ps', a3, rfl⟩ := Option.map_eq_some_iff.mp a2
    obtain ⟨q, b1, b2⟩ := Option.bind_eq_some_iff.mp h4
    obtain ⟨qs', b3, rfl⟩ := Option.map_eq_some_iff.mp b2
    rw [noBls] at h1 h2
    rw [okDs] at h5 h6
    rw [PyData.eqvAll, Bool.and_eq_true] at h
    rw [eqv_eq d e p q h1.1 h2.1 a1 b1 h5.1 h6.1 h.1, eqvs_eq ds es ps' qs' h1.2 h2.2 a3 b3 h5.2 h6.2 h.2]
end
/-- == of lists, tuples without truths in them -/
theorem use_eqD {f : Bool → Bool} {d e : D} {k : D → Prop} (hk : kindD d = 4 ∨ kindD d = 5) (h1 : noBl d) (h2 : noBl e) (h3 : okD d) (h4 : okD e) (d1 : deepD d ≤ 64) (d2 : deepD e ≤ 64)
    (q : ∀ b : Bool, (b = true ↔ d = e) → k (.bl (f b))) : eqD f d e k := by
  obtain ⟨p, P⟩ := okD.ok d h3
  obtain ⟨r, R⟩ := okD.ok e h4
  have fin : ∃ p q, dat d = some p ∧ dat e = some q ∧ SeqAt.shaped p = true ∧ SeqAt.shaped q = true ∧ k (.bl (f (PyData.eqv p q))) := by
    refine ⟨p, r, P.e, R.e, by unfold SeqAt.shaped; rw [P.cl, P.dp, decide_eq_true d1]; rfl, by unfold SeqAt.shaped; rw [R.cl, R.dp, decide_eq_true d2]; rfl, q _ ⟨fun h => eqv_eq d e p r h1 h2 P.e R.e h3 h4 h, fun h => ?_⟩⟩
    subst h
    have := P.e.symm.trans R.e
    cases this
    exact SeqAt.eqv_refl p P.cl
  cases d <;> first | (simp [kindD] at hk; done) | exact fin
theorem okDs_map {α : Type} {f : α → D} : ∀ {l : List α}, (∀ a ∈ l, okD (f a)) → okDs (l.map f)
  | [], _ => by rw [List.map_nil, okDs]; trivial
  | a :: l, h => by rw [List.map_cons, okDs]; exact ⟨h a List.mem_cons_self, okDs_map fun b m => h b (List.mem_cons_of_mem _ m)⟩
theorem noBls_map {α : Type} {f : α → D} : ∀ {l : List α}, (∀ a ∈ l, noBl (f a)) → noBls (l.map f)
  | [], _ => by rw [List.map_nil, noBls]; trivial
  | a :: l, h => by rw [List.map_cons, noBls]; exact ⟨h a List.mem_cons_self, noBls_map fun b m => h b (List.mem_cons_of_mem _ m)⟩
theorem deepDs_map {α : Type} {f : α → D} {n : Nat} : ∀ {l : List α}, (∀ a ∈ l, deepD (f a) ≤ n) → deepDs (l.map f) ≤ n
  | [], _ => by rw [List.map_nil, deepDs]; exact Nat.zero_le _
  | a :: l, h => by
    rw [List.map_cons, deepDs]
    exact Nat.max_le.mpr ⟨h a List.mem_cons_self, deepDs_map fun b m => h b (List.mem_cons_of_mem _ m)⟩
theorem bulkDs_map {α : Type} {f : α → D} {n : Nat} : ∀ {l : List α}, (∀ a ∈ l, bulkD (f a) ≤ n) → bulkDs (l.map f) ≤ (n + 1) * l.length
  | [], _ => by rw [List.map_nil, bulkDs]; exact Nat.zero_le _
  | a :: l, h => by
    rw [List.map_cons, bulkDs, List.length_cons]
    have h1 := h a List.mem_cons_self
    have h2 := bulkDs_map fun b m => h b (List.mem_cons_of_mem _ m)
    rw [Nat.mul_add, Nat.mul_one]
    omega
theorem ok_ints {ns : List Int} (h : ∀ n ∈ ns, n.natAbs.log2 < 1920) : okDs (ns.map D.int) := okDs_map fun n m => by rw [okD]; exact h n m
theorem bulk_ints (ns : List Int) : bulkDs (ns.map D.int) ≤ ns.length := by
  have := bulkDs_map (f := D.int) (n := 0) (l := ns) fun a _ => by rw [bulkD] <;> simp
  omega
theorem deep_ints (ns : List Int) : deepDs (ns.map D.int) ≤ 0 := deepDs_map fun a _ => by rw [deepD] <;> simp
theorem use_reprIs {ns : List Int} {k : D → Prop} (h : ∀ n ∈ ns, n.natAbs.log2 < 1920) (hl : ns.length ≤ 4000) (q : k (.str (showD (.lst (ns.map .int))))) : reprD [.lst (ns.map .int)] k :=
  use_repr (by rw [okD]; exact ok_ints h) (by rw [bulkD]; exact Nat.le_trans (bulk_ints ns) (by omega)) (by rw [deepD]; have := deep_ints ns; omega) q
/-! ### an own class and the built-in kinds -/
structure IsC (K : PySem.W.Frag) (C : Addr) : Prop where
  c : PySem.W.isClsIn K C = true
  t : PySem.W.typeIn K (.ref C) = some (.type "type")
theorem IsC.no {K : PySem.W.Frag} {C : Addr} (h : IsC K C) {T : String} (hs : PySem.W.subIn K (.type T) (.ref C) = some false) : PySem.W.kitOne K (.type T) (.ref C) = some false := by
  unfold PySem.W.kitOne
  rw [if_neg (by simp)]
  unfold PySem.W.kitCls
  have b2 : ((PySem.W.clsIn K C).isSome && PySem.W.typeIn K (.ref C) == some (.type "type")) = true := by
    have q : (PySem.W.clsIn K C).isSome = true := h.c
    rw [q, h.t]; rfl
  show (if ((PySem.W.clsIn K C).isSome && PySem.W.typeIn K (.ref C) == some (.type "type")) = true then PySem.W.subIn K (.type T) (.ref C) else none) = some false
  rw [if_pos b2]
  exact hs
theorem IsC.data {K : PySem.W.Frag} {C : Addr} (h : IsC K C) {d : D} (hd : plainD d) : ∃ t, tyD K d t ∧ PySem.W.kitOne K t (.ref C) = some false ∧ PySem.W.notFirst K C t = true := by
  cases d with
  | str z => exact ⟨_, rfl, h.no rfl, rfl⟩
  | int z => exact ⟨_, rfl, h.no rfl, rfl⟩
  | bl z => exact ⟨_, rfl, h.no rfl, rfl⟩
  | non => exact ⟨_, rfl, h.no rfl, rfl⟩
  | tup z => exact ⟨_, rfl, h.no rfl, rfl⟩
  | lst z => exact ⟨_, rfl, h.no rfl, rfl⟩
  | _ => exact hd.elim
end Lay

set_option Elab.async false
set_option linter.all false
set_option maxRecDepth 100000
set_option maxHeartbeats 2000000
namespace Lay
open PySem PySem.Spec PyProof.Rows L2
/-! ### an exception caught stays as a value -/
def ExV (cls : Value) (od : Option Addr) (a : Addr) : HO := .ext fun h => ∃ oe, h.get? a = some oe ∧ Zc cls od oe ∧ ∃ vs, oe.data = .fields vs
theorem exV_ok {P : Program} {w : World} {H : Hp} {h : Heap} {a : Addr} {cls : Value} {od : Option Addr} {oe : Obj} (e : h.get? a = some oe) (z : Zc cls od oe) (d : ∃ vs, oe.data = .fields vs) : ObjOk P w H h a (ExV cls od a) :=
  ⟨⟨oe, e, z, d⟩, ⟨oe, e⟩, fun _ _ ⟨o, q, r⟩ k => ⟨o, k o q, r⟩⟩
section
variable {X : Cx} {pins : List (Addr × Obj)} {σ : L2.St} {H : Hp} {s : Shared}
/-- a pinned exception of ours gets its place in the heap that is kept -/
theorem keep_exc {a : Addr} {oe : Obj} {cls : Value} {od : Option Addr} (I : Inv X ((a, oe) :: pins) σ H s) (hz : Zc cls od oe) (hf : ∃ vs, oe.data = .fields vs) (n0 : X.s_0.heap.get? a = none) (np : ∀ p ∈ X.pn ++ pins, p.1 ≠ a) :
    Inv X pins σ (upd H a (ExV cls od a)) s := by
  obtain ⟨ha, na, nL, nF, nc⟩ := I.pin (a, oe) (List.mem_append_right _ List.mem_cons_self)
  have B := I.base
  refine ⟨I.ok, I.os, I.bare, ⟨B.keep, B.slot, fun b o e n hx => ?_, B.there, fun b xs e => ?_, fun b o u e => ?_, fun b ps e => ?_⟩, I.loc, I.cell, ?_, fun x c e => ?_, fun p hp => ?_, HOk.laidN I.hok (fun b u q => q) na (exV_ok ha hz hf), I.len⟩
  · rw [upd_ne (fun z => by rw [z, n0] at e; cases e)]
    exact B.free b o e n hx
  · have q := B.tups b xs e
    rw [upd_ne (ne_of_none q na)]; exact q
  · have q := B.frzs b o u e
    rw [upd_ne (ne_of_none q na)]; exact q
  · obtain ⟨m, q⟩ := B.tbls b ps e
    exact ⟨m, by rw [upd_ne (ne_of_none q na)]; exact q⟩
  · rw [upd_ne (Ne.symm nL)]; exact I.free
  · have hc : c ≠ a := fun z => by
      obtain ⟨v, o, ho, hd⟩ := I.cell x c e
      rw [z, ha] at ho
      cases ho
      exact nc _ hd
    rw [upd_ne hc]; exact I.freeC x c e
  · obtain ⟨e, n, r⟩ := I.pin p (by
      rcases List.mem_append.mp hp with h | h
      · exact List.mem_append_left _ h
      · exact List.mem_append_right _ (List.mem_cons_of_mem _ h))
    exact ⟨e, by rw [upd_ne (np p hp)]; exact n, r⟩
end
/-- behind the suite the exception is kept -/
def wKeep (K : PySem.W.Frag) (c : Value) (i : Nat) (ts : Addr → Value → Option Addr → TS) (Wout : WX) (D : Ends) : WX := fun cls d σ H => ∃ b, PySem.W.exmOne K cls c = some b ∧
  (b = true → ∀ a, H a = none → ts a cls d { nx := fun σ' H' => H' a = none → D.nx (σ'.set i none) (upd H' a (ExV cls d a)), rt := D.rt, bk := fun σ' H' => D.bk (σ'.set i none) H', ct := fun σ' H' => D.ct (σ'.set i none) H' } (σ.set i (some (.ref a))) H) ∧
  (b = false → Wout cls d σ H)
section
variable {X : Cx} {x n : Str} {c : Value} {i : Nat} {body suite : List Stmt} {b₀ : Stmt} {np pos pos' : Pos} {tb : WX → TS} {ts : Addr → Value → Option Addr → TS} {Wout : WX}
theorem ps_try_keep (hx : X.ex = []) (hs : X.stack = X.env :: X.outer) (hf : X.env.frame = some X.env.locals) (hN : X.N.Nodup) (hi : X.N[i]? = some n) (hln : X.env.kindOf n = some .local) (hc : Names X x c) (tk : Takes X Wout)
    (hb : ∀ (W : WX) (pn : List (Addr × Obj)) (xe : Value → Shared → Prop), Takes (X.tr pn xe) W → PassesOwn (model X.prog X.w) X.A X.env xe → PSs (X.tr pn xe) body (tb W))
    (hsu : ∀ (a : Addr) (oe : Obj) (cls : Value) (d : Option Addr) (pn : List (Addr × Obj)), Zc cls d oe → (∃ vs, oe.data = .fields vs) → PSs (X.suite a ((a, oe) :: pn)) (b₀ :: suite) (ts a cls d)) :
    PS X (.Try body [.ExceptHandler (some (.Name x np)) (some n) (b₀ :: suite) pos'] [] [] pos) (fun D σ H => tb (wKeep X.K c i ts Wout D) D σ H) := by
  constructor
  intro pins s σ H D I h
  have ok := I.ok
  have frames : X.A.frames = some (X.env :: X.outer) := ok.frames.trans (congrArg some hs)
  apply wpAny_Try_except
  have body_runs := (hb (wKeep X.K c i ts Wout D) (X.pn ++ pins) (fun e s₁ => wpAny (model X.prog X.w) X.A (noteFrame e X.env) (fun _ s₂ => wpAny (model X.prog X.w) X.A (setFlight e none) (fun _ s₃ =>
    wpAny (model X.prog X.w) X.A (handleBy e X.env [.ExceptHandler (some (.Name x np)) (some n) (b₀ :: suite) pos']) (SP X pins D) X.xe s₃) X.xe s₂) X.xe s₁) ?_ PassesOwn.looking).run [] s σ H D (I.toTry _) h
  · refine wpAny_mono body_runs (fun f s1 q => ?_) fun _ _ z => z
    cases f with
    | next =>
      obtain ⟨σ1, H1, J, q⟩ := q
      exact wpAny_execs_nil ⟨σ1, H1, J.ofTry ok, q⟩
    | ret u =>
      obtain ⟨v, σ1, H1, J, r, q⟩ := q
      exact ⟨v, σ1, H1, J.ofTry ok, r, q⟩
    | _ =>
      obtain ⟨σ1, H1, J, q⟩ := q
      exact ⟨σ1, H1, J.ofTry ok, q⟩
  · rintro _ s' ⟨a, B, sI, pins', σ1, H1, cls, d, rfl, J', nb, up, sky, na, os, ag, b, hb1, yes, no⟩
    have J := J'.ofTry ok
    rw [hs] at sky
    show wpAny (model X.prog X.w) X.A (noteFrame (.ref a) X.env) _ _ _
    refine Sky.land Zc.steady frames hf sky fun h3 fl up3 => ?_
    obtain ⟨oe3, vs3, he3, hz3, hd3⟩ := fl.there
    have nfr : a ∉ frs (X.env :: X.outer) := fun hm => by
      obtain ⟨_, o', e', hnf⟩ := fl.2.2.1.mem hm
      rw [he3] at e'; cases e'
      exact hnf _ hd3
    have nL : a ≠ X.env.locals := fun z => nfr (List.mem_filterMap.mpr ⟨X.env, List.mem_cons_self, by rw [hf, z]⟩)
    have nF : a ∉ X.fs := fun hm => by
      obtain ⟨e, he, q⟩ := List.mem_filterMap.mp hm
      exact nfr (List.mem_filterMap.mpr ⟨e, List.mem_cons_of_mem _ he, q⟩)
    have nB : B.get? a = none := fl.2.1
    have inB : ∀ b o, sI.heap.get? b = some o → b ≠ a ∨ a ∈ frs X.stack := fun b o e => by
      by_cases hm : b ∈ frs X.stack
      · by_cases z : b = a
        · exact .inr (z ▸ hm)
        · exact .inl z
      · refine .inl fun z => ?_
        have := nb b o e hm
        rw [z, nB] at this
        cases this
    have nst : a ∉ frs X.stack := by rw [hs]; exact nfr
    have ne : ∀ b o, sI.heap.get? b = some o → b ≠ a := fun b o e => (inB b o e).resolve_right nst
    have n0 : X.s_0.heap.get? a = none := by
      cases e : X.s_0.heap.get? a with
      | none => rfl
      | some o =>
        obtain ⟨o', e'⟩ := J.base.there a o e (by rw [hx]; exact List.not_mem_nil)
        exact absurd rfl (ne a o' e')
    have npin : ∀ p ∈ X.pn ++ pins, p.1 ≠ a := fun p hp => ne p.1 p.2 (J'.pin p (List.mem_append_left _ hp)).1
    have J3 : Inv X pins σ1 H1 { s' with heap := h3 } := J.landed nb fl.1 (up.trans up3) os ag
    have S3 := J3.suite he3 hd3 na nL nF
    refine wpAny_handleBy_cons (codeAny_handlers_test ?_) (by intro q; cases q)
    have looks : PySem.W.Looks (model X.prog X.w) h3 (typeOf (.ref a)) cls := fun A Q E s k q => wpAny_typeOf_ref (k _ _ he3) (by rw [hz3.1]; exact q)
    have asks := PySem.W.exm_one (M := model X.prog X.w) J3.kIn looks hb1
    have name : ∀ {Q E : Value → Shared → Prop}, Q c { s' with heap := h3 } → wpAny (model X.prog X.w) (X.A.mark (some (.ref a))) (eval (.Name x np) X.env) Q E { s' with heap := h3 } := fun {Q E} q => by
      rcases hc with ⟨g, dbg, hm | ⟨hm, hv, hnn⟩⟩
      · exact ld_glob (X := X.suite a ((a, oe3) :: (X.pn ++ pins))) S3 g hm q dbg
      · exact ld_blt (X := X.suite a ((a, oe3) :: (X.pn ++ pins))) S3 g hm hv q hnn dbg
    refine name (asks.here ?_)
    cases b with
    | false =>
      show wpAny _ X.A (handleBy (.ref a) X.env []) _ _ _
      refine wpAny_handleBy_nil ?_
      obtain ⟨_, _, _, oe, vs, t, ot, tr, he, hz, hd, h1, hr⟩ := id fl
      unfold PySem.passOn
      refine wpAny_bind (wpAny_field he hd h1 ?_)
      rw [if_neg (show ¬ ((Value.ref t == Value.none) = true) from by simp)]
      have goes : wpAny (model X.prog X.w) X.A (setFlight (.ref a) X.env.frame) (fun _ s4 => wpAny (model X.prog X.w) X.A (throw (.ref a) : Sem Flow) (SP X pins D) X.xe s4) X.xe { s' with heap := h3 } := by
        rw [hf]
        exact HandSPX.setFlight_upZ fl fun h4 held up4 => wpAny_throw (tk _ _ ⟨a, B, sI, pins, σ1, H1, cls, d, rfl, J, nb, (up.trans up3).trans up4, .inr (.inr (by rw [hs]; exact held)), na, os, ag, no rfl⟩)
      first
        | exact wpAny_bind (wpAny_pure (wpAny_bind goes))
        | exact wpAny_bind goes
    | true =>
      refine codeAny_handlers_suite_as (HandSPX.lands_againZ fl fun h4 fl4 up4 => ?_)
      obtain ⟨oe4, vs4, he4, hz4, hd4⟩ := fl4.there
      have J4 : Inv X pins σ1 H1 { s' with heap := h4 } := J.landed nb fl4.1 ((up.trans up3).trans up4) os ag
      have S4 := J4.suite he4 hd4 na nL nF
      refine store_ok (X := X.suite a ((a, oe4) :: (X.pn ++ pins))) (v := .ref a) S4 hN hi (.inl hln) rfl (fun s5 S5 => ?_) (.inr hln)
      refine wpAny_mono ((hsu a oe4 cls d (X.pn ++ pins) hz4 ⟨_, hd4⟩).run [] s5 _ H1 _ S5 (yes rfl a na)) (fun f s6 q => ?_) (fun _ _ z => False.elim z)
      have pinned : ∀ {σ6 : L2.St} {H6 : Hp}, Inv (X.suite a ((a, oe4) :: (X.pn ++ pins))) [] σ6 H6 s6 → Inv X ((a, oe4) :: pins) σ6 H6 s6 := fun {σ6 H6} S6 =>
        ⟨ok, S6.os, S6.bare, S6.base, S6.loc, S6.cell, S6.free, S6.freeC, fun p hp => S6.pin p (List.mem_append_left _ (by
          rcases List.mem_append.mp hp with m | m
          · exact List.mem_cons_of_mem _ (List.mem_append_left _ m)
          · rcases List.mem_cons.mp m with m | m
            · rw [m]; exact List.mem_cons_self
            · exact List.mem_cons_of_mem _ (List.mem_append_right _ m))), S6.hok, S6.len⟩
      have less : ∀ {σ7 : L2.St} {H7 : Hp} {s7 : Shared}, Inv X ((a, oe4) :: pins) σ7 H7 s7 → Inv X pins σ7 H7 s7 := fun {σ7 H7 s7} J7 =>
        ⟨ok, J7.os, J7.bare, J7.base, J7.loc, J7.cell, J7.free, J7.freeC, fun p hp => J7.pin p (by
          rcases List.mem_append.mp hp with m | m
          · exact List.mem_append_left _ m
          · exact List.mem_append_right _ (List.mem_cons_of_mem _ m)), J7.hok, J7.len⟩
      cases f with
      | next =>
        obtain ⟨σ6, H6, S6, q6⟩ := q
        exact gone_ok (pinned S6) hN hi hln fun s7 J7 => ⟨_, _, keep_exc J7 hz4 ⟨_, hd4⟩ n0 npin, q6 (J7.pin (a, oe4) (List.mem_append_right _ List.mem_cons_self)).2.1⟩
      | ret u =>
        obtain ⟨v6, σ6, H6, S6, r6, q6⟩ := q
        exact gone_ok (pinned S6) hN hi hln fun s7 J7 => ⟨_, _, _, less J7, r6, q6⟩
      | brk =>
        obtain ⟨σ6, H6, S6, q6⟩ := q
        exact gone_ok (pinned S6) hN hi hln fun s7 J7 => ⟨_, _, less J7, q6⟩
      | cont =>
        obtain ⟨σ6, H6, S6, q6⟩ := q
        exact gone_ok (pinned S6) hN hi hln fun s7 J7 => ⟨_, _, less J7, q6⟩
end
/-! ### over trees -/
def keepX (a : Addr) (od : Option Addr) (C : Addr) : Sl → Sl
  | .exc a' od' ns ds => if a' = a ∧ od' = od then .val (.exn C ns ds) else .exc a' od' ns ds
  | s => s
theorem Wd.keepx {K : PySem.W.Frag} {M : Addr → Prop} {H : Hp} {σ : L2.St} {ρ : List Sl} {z : Z} {O : Nat → Option Addr} (w : Wd K M H σ ρ z O) {a C : Addr} {od : Option Addr} (hn : ¬ NN M z O a) (h : H a = some (ExT C od a)) :
    Wd K M H σ (ρ.map (keepX a od C)) z O := by
  refine ⟨by rw [List.length_map]; exact w.len, w.al, w.pot, w.pm, w.ow, fun i s hs => ?_, fun i hi => w.out i (by rw [List.getElem?_map] at hi; exact Option.map_eq_none_iff.mp hi)⟩
  rw [List.getElem?_map] at hs
  obtain ⟨s0, e, rfl⟩ := Option.map_eq_some_iff.mp hs
  have q := w.sl i s0 e
  unfold keepX
  split
  · rename_i a' od' ns ds
    by_cases hh : a' = a ∧ od' = od
    · rw [if_pos hh]
      obtain ⟨rfl, rfl⟩ := hh
      obtain ⟨q1, q2, q3⟩ := q
      refine ⟨q1, _, q2, ?_⟩
      rw [Rep]
      cases od' with
      | none =>
        obtain ⟨rfl, rfl⟩ := q3
        exact ⟨a', none, [], rfl, hn, h, rfl, fun dd z => (nomatch z), fun _ => rfl, Reps.nil⟩
      | some dd =>
        obtain ⟨p1, p2, vs, p3, p4⟩ := q3
        exact ⟨a', some dd, vs, rfl, hn, h, p2, fun d z => by cases z; exact ⟨p1, p3⟩, fun z => (nomatch z), p4⟩
    · rw [if_neg hh]
      exact q
  · exact q
/-- try, the exception kept behind it -/
def dTryK (K : PySem.W.Frag) (c : Value) (i : Nat) (body : DTS) (suite : Addr → Value → Option Addr → DTS) : DTS := fun R ρ z => body { R with ex := fun C ns ds ρ' z' => ∃ b, PySem.W.exmOne K (.ref C) c = some b ∧
  (b = true → ∀ a od, (ns ≠ [] → od ≠ none) → suite a (.ref C) od { R with nx := fun ρ2 z2 => R.nx ((ρ2.set i .any).map (keepX a od C)) z2, bk := fun ρ2 z2 => R.bk (ρ2.set i .any) z2, ct := fun ρ2 z2 => R.ct (ρ2.set i .any) z2 } (ρ'.set i (.exc a od ns ds)) z') ∧ (b = false → R.ex C ns ds ρ' z') } ρ z
section
variable {X : Cx} {W : WX} {e : Expr} {pos : Pos}
theorem ds_tryK {x n : Str} {c : Value} {i : Nat} {body suite : List Stmt} {b₀ : Stmt} {np pos' : Pos} {tb : DTS} {ts : Addr → Value → Option Addr → DTS} {Wout : WX} (hx : X.ex = []) (hs : X.stack = X.env :: X.outer) (hf : X.env.frame = some X.env.locals) (hN : X.N.Nodup) (hi : X.N[i]? = some n) (hln : X.env.kindOf n = some .local) (hc : Names X x c) (tk : Takes X Wout)
    (hb : ∀ (W : WX) (pn : List (Addr × Obj)) (xe : Value → Shared → Prop), Takes (X.tr pn xe) W → PassesOwn (model X.prog X.w) X.A X.env xe → DSs (X.tr pn xe) W body tb)
    (hsu : ∀ (a : Addr) (oe : Obj) (cls : Value) (d : Option Addr) (pn : List (Addr × Obj)), Zc cls d oe → (∃ vs, oe.data = .fields vs) → DSs (X.suite a ((a, oe) :: pn)) Wout (b₀ :: suite) (ts a cls d)) :
    DS X Wout (.Try body [.ExceptHandler (some (.Name x np)) (some n) (b₀ :: suite) pos'] [] [] pos) (dTryK X.K c i tb ts) := by
  refine ps_to (ps_try_keep hx hs hf hN hi hln hc tk (tb := fun W => US X.K W tb) (ts := fun a cls d => US X.K Wout (ts a cls d)) hb hsu) fun D σ H ⟨M, ρ, z, O, R, w, h, k⟩ => ?_
  refine ⟨M, ρ, z, O, _, w, h, k.nx, k.bk, k.ct, k.rt, fun C ns ds ρ' z' od H' O' σ' ⟨b, e, h1, h2⟩ g w' ex => ⟨b, e, fun hbt a ha => ?_, fun hbf => k.ex C ns ds ρ' z' od H' O' σ' (h2 hbf) g w' ex⟩⟩
  have kk := k.after (g.trans (GoE.off (i := i)).toGo)
  refine ⟨M, _, z', off O' i, _, w'.setx i ex, h1 hbt a od (fun hn e => by subst e; exact hn ex.1), ?_⟩
  refine ⟨fun ρ2 z2 σ2 H2 O2 h g w na => ?_, fun ρ2 z2 σ2 H2 O2 h g w => kk.bk _ z2 _ H2 _ h (g.trans GoE.off.toGo) (w.unset i), fun ρ2 z2 σ2 H2 O2 h g w => kk.ct _ z2 _ H2 _ h (g.trans GoE.off.toGo) (w.unset i), kk.rt, kk.ex⟩
  obtain ⟨w3, g3⟩ := w.grow (same_new (o := ExT C od a) na)
  exact kk.nx _ z2 _ _ _ h (g.trans (g3.toGo.trans (GoE.off (i := i)).toGo)) ((w3.unset i).keepx (fun q => w.alloc a q.off na) upd_same)
/-- y = e, e the exception caught -/
def dSetX (i j : Nat) : DTS := fun R ρ z => match ρ[i]? with | some (.exc a od ns ds) => R.nx (ρ.set j (.exc a od ns ds)) z | _ => False
theorem ds_setX {i j : Nat} {x y : Str} {px py : Pos} (hN : X.N.Nodup) (hi : X.N[i]? = some x) (hj : X.N[j]? = some y) (hy : Loc X.env.scope y) (hv : Vis X.env.scope x := by first | exact Or.inl rfl | exact Or.inr (Or.inl rfl) | exact Or.inr (Or.inr rfl))
    (hs : swapsWith (.Name x px) (some (.Name y py)) pos.line X.env = pure false := by rfl)
    (hf : X.fn y = true ∨ X.env.scope.names.lookup y = some .local := by first | exact .inl rfl | exact .inr rfl | assumption) (hd : (x == ("__debug__" : Str)) = false := by decide)
    (hcd : (x == ("__classdict__" : Str)) = false := by decide) : DS X W (.Assign [.Name y py] (.Name x px) pos) (dSetX i j) := ps_to (ps_set hN hj hy (pe_var hi hv hd hcd) hs hf) fun D σ H ⟨M, ρ, z, O, R, w, h, k⟩ => by
  unfold dSetX at h
  split at h
  · rename_i a od ns ds e
    obtain ⟨q1, q2, q3⟩ := w.sl i _ e
    exact ⟨_, join_some q2, k.nx _ z _ H _ h (GoE.off (i := j)).toGo (w.setx j q3)⟩
  · exact h.elim
theorem pe_xfT {C : Addr} {te : TE} {n : Str} (T : XfC X.K C) (hno : PySem.W.findIn X.K (.ref C) n = some none) (he : PE X e te) (hb : attributeBase e n X.env (eval e X.env) = eval e X.env) :
    PE X (.Attribute e n pos) (fun σ H Q => te σ H fun x H1 => ∃ (a dd : Addr) (fs : List (Str × V)) (v : V), x = .ref a ∧ H1 a = some (ExT C (some dd) a) ∧ H1 dd = some (.xd fs) ∧ fs.lookup n = some v ∧ Q v H1) := by
  constructor
  intro pins s σ H Q I h
  refine attr_of hb (thn (he.run pins s σ H _ I h) ?_)
  rintro u s1 ⟨x, H1, I1, rx, a, dd, fs, v, rfl, ea, ed, l, q⟩
  obtain rfl : u = Value.ref a := rx
  obtain ⟨⟨oe, ha, hz, vs, hd⟩, _, _⟩ := I1.hok a _ ea
  obtain ⟨mA, hns, hr⟩ : ObjOk X.prog X.w H1 s1.heap dd (.xd fs) := I1.hok dd _ ed
  obtain ⟨od, ho, hl⟩ := lookIn_ns hns
  obtain ⟨u, hu, ru⟩ := RelO.some_of (v := v) (o := mA n) (by rw [← l]; exact hr n)
  have J : PySem.W.InstAt s1.heap a oe C (some od) := ⟨ha, hz.1, by unfold PySem.W.notCls; rw [hd] <;> rfl, by rw [hz.2]; exact ho⟩
  exact HandSPX.exc_get I1.kIn J T.ga T.gg T.exC (PySem.W.findObj_own T.hdC hno rfl (by rw [hl, hu])) (handed_of ru) ⟨v, H1, I1.tok _, ru, q⟩
def xfD (C : Addr) (f : Str) : D → (D → Prop) → Prop
  | .exn C' ns ds, k => C' = C ∧ ns ≠ [] ∧ ∃ d, ((ns.zip ds).reverse).lookup f = some d ∧ k d
  | _, _ => False
theorem de_xfV {C : Addr} {t : DX D} {f : Str} (T : XfC X.K C) (hno : PySem.W.findIn X.K (.ref C) f = some none) (he : DP X W e t) (hb : attributeBase e f X.env (eval e X.env) = eval e X.env) :
    DE X W (.Attribute e f pos) (dUn (xfD C f) t) := pe_to (pe_xfT T hno he hb) fun σ H Q ⟨M, ρ, z, O, R, RX, w, h, x, k⟩ =>
  ⟨M, ρ, z, O, _, RX, w, h, x, fun d ρ' z' v H' O' hd g w' r => by
    unfold xfD at hd
    split at hd
    · obtain ⟨rfl, hne, d, e2, hd⟩ := hd
      obtain ⟨a, od, vs, rfl, q1, q2, q3, q4, q5⟩ := r.exn
      cases od with
      | none => exact absurd (q4 rfl) hne
      | some dd =>
        obtain ⟨v, p5, p6⟩ := lookup_reps_rev q2 q5 e2
        exact ⟨a, dd, _, v, rfl, q1, q3 dd rfl, p5, k d ρ' z' v H' O' hd g w' p6⟩
    · exact hd.elim⟩
end
/-! steps -/
theorem ap_dTryK (K : PySem.W.Frag) (c : Value) (i : Nat) (body : DTS) (suite : Addr → Value → Option Addr → DTS) (R : DEnds) (s0 : Sl) (ρ0 : List Sl) (z : Z) : dTryK K c i body suite R (s0 :: ρ0) z = body { nx := R.nx, rt := R.rt, bk := R.bk, ct := R.ct, ex := fun C ns ds ρ' z' => ∃ b, PySem.W.exmOne K (.ref C) c = some b ∧
  (b = true → ∀ a od, (ns ≠ [] → od ≠ none) → suite a (.ref C) od { nx := fun ρ2 z2 => R.nx ((ρ2.set i .any).map (keepX a od C)) z2, rt := R.rt, bk := fun ρ2 z2 => R.bk (ρ2.set i .any) z2, ct := fun ρ2 z2 => R.ct (ρ2.set i .any) z2, ex := R.ex } (ρ'.set i (.exc a od ns ds)) z') ∧ (b = false → R.ex C ns ds ρ' z') } (s0 :: ρ0) z := rfl
theorem ap_dSetX (i j : Nat) (R : DEnds) (s0 : Sl) (ρ0 : List Sl) (z : Z) : dSetX i j R (s0 :: ρ0) z = match (s0 :: ρ0)[i]? with | some (.exc a od ns ds) => R.nx ((s0 :: ρ0).set j (.exc a od ns ds)) z | _ => False := rfl
theorem kx_any (a : Addr) (od : Option Addr) (C : Addr) : keepX a od C .any = .any := rfl
theorem kx_val (a : Addr) (od : Option Addr) (C : Addr) (d : D) : keepX a od C (.val d) = .val d := rfl
theorem kx_own (a : Addr) (od : Option Addr) (C : Addr) (d : List D) : keepX a od C (.own d) = .own d := rfl
theorem kx_exc (a : Addr) (od : Option Addr) (C : Addr) (ns : List Str) (ds : List D) : keepX a od C (.exc a od ns ds) = .val (.exn C ns ds) := if_pos ⟨rfl, rfl⟩
theorem e_xfD (C : Addr) (f n : Str) (ns : List Str) (ds : List D) (k : D → Prop) : xfD C f (.exn C (n :: ns) ds) k = ∃ d, (((n :: ns).zip ds).reverse).lookup f = some d ∧ k d :=
  propext ⟨fun ⟨_, _, h⟩ => h, fun h => ⟨rfl, List.cons_ne_nil _ _, h⟩⟩
theorem e_nonX (C : Addr) (ns : List Str) (ds : List D) : isNonD (.exn C ns ds) = false := rfl
end Lay

set_option Elab.async false
set_option linter.all false
set_option maxRecDepth 100000
set_option maxHeartbeats 2000000
/-! ranges of whole numbers of any size -/
namespace Lay
open PySem PySem.Spec PyProof.Rows L2
theorem turn_wide {P : Program} {w : World} {K : PySem.W.Frag} {tg : Expr} (it : Addr) (lo : Int) (n : Nat) : Turn P w K tg (Itc lo 1 n) [it] it (fun i h => IsLongIter h it (lo + (i : Nat) * 1) ((n : Int) - (i : Nat)) 1) where
  mem := List.mem_singleton.mpr rfl
  obj := fun i h st b hb => by
    obtain rfl := List.mem_singleton.mp hb
    exact ⟨_, st, fun v z => nomatch z⟩
  keep := fun i h h' st k => k it (List.mem_singleton.mpr rfl) _ st
  item := by
    rintro X rfl rfl rfl hc i pins s σ H E I hf st hg
    obtain ⟨f0, f1, f2, f3, f4, f5⟩ := hf it (List.mem_singleton.mpr rfl)
    refine (Walks.longrange (prog := X.prog) (w := X.w) (I.ok.hd hc) it lo 1 n).item i s _ _ hg st fun v h' tk hv st' kk => ?_
    obtain ⟨t, rfl⟩ := hv
    have J : Inv X pins σ H { s with heap := h', toks := tk } := I.turned (fun b o hb e => kk b o (fun m => hb (List.mem_singleton.mp m)) e) f0 f1 f3 f4 f5
    exact ⟨_, rfl, go_of (s := { s with heap := h', toks := tk }) (n := "longrange_iterator") st' rfl rfl (by decide) ⟨.int (lo + (i : Nat) * 1), H, J, ⟨t, rfl⟩, ⟨rfl, rfl⟩, st', fun b hb => (hf b hb).1⟩⟩
  done := by
    rintro X rfl rfl rfl hc i pins s σ H E I hf st hg
    obtain ⟨f0, f1, f2, f3, f4, f5⟩ := hf it (List.mem_singleton.mpr rfl)
    exact wpAny_pyNext_long_end (I.ok.hd hc) st (by have : n ≤ i := hg; omega) fun h' eb => ⟨rfl, I.turned (t' := s.toks) (fun b o hb e => eb b o hb e) f0 f1 f3 f4 f5⟩
  self := fun A i s Q E st h => wpAny_pyIter_longiter st h
section
variable {X : Cx} {W : WX} {tg a b : Expr}
def iRngW (ta : TA) : TI := fun σ H R => ta σ H fun vs H1 => ∃ i j : Int, vs = [.int i, .int j] ∧ R (Itc i 1 (j - i).toNat) H1
theorem pi_rangeW {ta : TA} {p pos : Pos} (hg : Gl X "range") (hm : X.mg "range" = none) (ha : PA X [a, b] ta) (hs : starEach [a, b] X.env = [(false, eval a X.env), (false, eval b X.env)] := by rfl) (hs2 : starEach [b] X.env = [(false, eval b X.env)] := by rfl) :
    PI X tg (.Call (.Name "range" p) [a, b] [] pos) (iRngW ta) := by
  constructor
  intro pins s σ H R I h
  refine Call_ (ld_blt I hg hm boot_range (PyProof.Rows.callWith_type1 (thn (ha.run pos pins s σ H _ I h) ?_) (by rw [hs, hs2]) (by rw [hs2]; rfl)))
  rintro us s1 ⟨vs, H1, I1, r1, i, j, rfl, q⟩
  match us, r1 with
  | _, .cons r (.cons r' .nil) =>
    obtain ⟨t, rfl⟩ := r
    obtain ⟨t', rfl⟩ := r'
    refine call_range_2 ?_
    have I2 : Inv X pins σ H1 { s1 with heap := s1.heap.push { cls := .type "range", data := .fields #[.int i t, .int j t', .int 1 s1.toks] }, toks := s1.toks + 1 } := I1.kept fun b o e => Heap.get?_push_of_some _ e
    have hn : Builtin.Range.rangeSize i j 1 = ((j - i).toNat : Int) := rangeSize_nat i j
    have e0 : i + ((0 : Nat) : Int) * 1 = i := by simp
    have e1 : (((j - i).toNat : Nat) : Int) - ((0 : Nat) : Int) = Builtin.Range.rangeSize i j 1 := by rw [hn]; simp
    cases hsm : Builtin.Range.small i j 1 with
    | true =>
      refine wpAny_pyIter_range (IsRange.new ..) hsm (pi_one (tk := s1.toks + 1) I2 _ (turn_rangeC _ i 1 (j - i).toNat) ?_ q)
      show IsRangeIter _ _ (i + ((0 : Nat) : Int) * 1) ((((j - i).toNat : Nat) : Int) - ((0 : Nat) : Int)) 1
      rw [e0, e1]
      exact Heap.get?_push_size _ rfl
    | false =>
      refine wpAny_pyIter_longrange (IsRange.new ..) hsm (pi_one (tk := s1.toks + 1) I2 _ (turn_wide _ i (j - i).toNat) ?_ q)
      show IsLongIter _ _ (i + ((0 : Nat) : Int) * 1) ((((j - i).toNat : Nat) : Int) - ((0 : Nat) : Int)) 1
      rw [e0, e1]
      exact Heap.get?_push_size _ rfl
def rngW : List D → (List D → Prop) → Prop
  | [.int i, .int j], k => k (rngC i 1 (j - i).toNat)
  | _, _ => False
theorem di_rangeW {p pos : Pos} {t : DX (List D)} (hg : Gl X "range") (hm : X.mg "range" = none) (ha : DA X W [a, b] t) (hs : starEach [a, b] X.env = [(false, eval a X.env), (false, eval b X.env)] := by rfl) (hs2 : starEach [b] X.env = [(false, eval b X.env)] := by rfl) :
    DI X W tg (.Call (.Name "range" p) [a, b] [] pos) (dItA rngW t) := pi_to (pi_rangeW hg hm ha hs hs2) fun σ H Q ⟨M, ρ, z, O, R, RX, w, h, x, k⟩ => ⟨M, ρ, z, O, _, RX, w, h, x, fun ds ρ' z' vs H' O' hd g w' r => by
    unfold rngW at hd
    split at hd
    · obtain ⟨v, v2, rfl, r1, r2⟩ := r.two
      obtain rfl := r1.int
      obtain rfl := r2.int
      exact ⟨_, _, rfl, k _ ρ' z' H' O' _ hd g w' walkd_rngC⟩
    · exact hd.elim⟩
theorem e_rngW (i j : Int) (k : List D → Prop) : rngW [.int i, .int j] k = k (rngC i 1 (j - i).toNat) := rfl
end
end Lay

set_option Elab.async false
set_option linter.all false
set_option maxRecDepth 100000
set_option maxHeartbeats 2000000
namespace Lay
open PySem PySem.Spec PyProof.Rows L2
section
variable {X : Cx} {W : WX} {e a b : Expr} {pos : Pos}
/-- x.extend(e), x an own list, e a list -/
def dExtend (i : Nat) (t : DX D) : DTS := fun R ρ z => ∃ ds0, ρ[i]? = some (.own ds0) ∧ t ρ z (fun d ρ' z' => match d with | .lst es => (match ρ'[i]? with | some (.own ds) => ds.length + es.length ≤ sizeLine ∧ R.nx (ρ'.set i (.own (ds ++ es))) z' | _ => False) | _ => False) R.ex
theorem ds_extend {i : Nat} {x : Str} {t : DX D} {apos cpos : Pos} {xpos : Pos} (hN : X.N[i]? = some x) (he : DE X W e t)
    (hv : Vis X.env.scope x := by first | exact Or.inl rfl | exact Or.inr (Or.inl rfl) | exact Or.inr (Or.inr rfl)) (hd : (x == ("__debug__" : Str)) = false := by decide)
    (hcd : (x == ("__classdict__" : Str)) = false := by decide)
    (hbase : attributeBase (.Name x xpos) "extend" X.env (eval (.Name x xpos) X.env) = eval (.Name x xpos) X.env := by rfl)
    (hfew : ((backTo cpos (starEach [e] X.env)).all (fun x => !x.1) && (backToKw cpos (keywordEach [] X.env)).all (fun x => x.1.isSome)
      && decide (([e]).length + ([] : List Keyword).length + (if ([] : List Keyword).isEmpty then 0 else 1) < 30)) = true := by rfl)
    (hline : (apos.endLine == cpos.line) = true := by rfl) (hs : starEach [e] X.env = (false, eval e X.env) :: starEach [] X.env := by rfl)
    (hsw : swapsWith (.Call (.Attribute (.Name x xpos) "extend" apos) [e] [] cpos) none pos.line X.env = pure false := by rfl) :
    DS X W (.Expr (.Call (.Attribute (.Name x xpos) "extend" apos) [e] [] cpos) pos) (dExtend i t) := by
  refine ps_to (ps_expr (pe_bm PySem.F.plainAttrs_list PySem.F.slot_list_extend PySem.F.type_list_extend mt_extend (pe_var hN hv hd hcd) (pa_cons he pa_nil hs) hbase hfew hline hs (by rfl)) hsw) fun D σ H ⟨M, ρ, z, O, R, w, ⟨ds0, h0, h⟩, k⟩ => ?_
  obtain ⟨a0, vs0, q1, q2, q3, q4⟩ := w.sl i _ h0
  refine ⟨_, join_some q2, .inl ⟨rfl, _, SqL.of q3⟩, M, ρ, z, O, _, R.ex, w, h, k.ex, fun d ρ' z' v H' O' hd g w' r => ?_⟩
  have hd' : ∃ es ds, d = .lst es ∧ ρ'[i]? = some (.own ds) ∧ ds.length + es.length ≤ sizeLine ∧ R.nx (ρ'.set i (.own (ds ++ es))) z' := by
    cases d with
    | lst es =>
      replace hd : match ρ'[i]? with | some (.own ds) => ds.length + es.length ≤ sizeLine ∧ R.nx (ρ'.set i (.own (ds ++ es))) z' | _ => False := hd
      split at hd
      · exact ⟨_, _, rfl, ‹_›, hd⟩
      · exact hd.elim
    | _ => exact hd.elim
  obtain ⟨es, ds, rfl, e1, hl, hd'⟩ := hd'
  obtain ⟨a, vs, p1, p2, p3, p4⟩ := w'.sl i _ e1
  have ea : a = a0 := by rw [q2] at p2; cases p2; rfl
  subst ea
  replace r : Rep X.K (NN M z' O') H' (.lst es) v := r
  rw [Rep] at r
  obtain ⟨b, ws, rfl, _, hb, rb⟩ := r
  refine ⟨a, b, vs, ws, rfl, rfl, p3, hb, by rw [← p4.length, ← rb.length]; exact hl, ?_⟩
  have na : ∀ (c : Addr) (o : HO), H' c = some o → ¬ NN M z' O' c → (upd H' a (.lst (vs ++ ws))) c = some o := fun c o e n => by rw [upd_ne (fun q => n (.inr (.inr ⟨i, by rw [q]; exact p1⟩)))]; exact e
  obtain ⟨w2, g2⟩ := w'.wrote p1 (o := .lst (vs ++ ws)) (s := .own (ds ++ es)) (lt_of_get e1) ⟨a, vs ++ ws, rfl, p2, upd_same, Reps.mono ⟨na, fun b h => .inl h⟩ _ _ (p4.append rb)⟩
  exact k.nx _ z' σ _ O' hd' (g.toGo.trans g2) w2
end
def extD (o : Option Sl) (d : D) (k : List D → Prop) : Prop := match o, d with
  | some (.own ds), .lst es => ds.length + es.length ≤ sizeLine ∧ k (ds ++ es)
  | _, _ => False
theorem ap_dExtend (i : Nat) (t : DX D) (R : DEnds) (s0 : Sl) (ρ0 : List Sl) (z : Z) : dExtend i t R (s0 :: ρ0) z = (∃ ds0, (s0 :: ρ0)[i]? = some (.own ds0) ∧ t (s0 :: ρ0) z (fun d ρ' z' => extD (ρ'[i]?) d fun es => R.nx (ρ'.set i (.own es)) z') R.ex) := by
  unfold dExtend extD
  refine congrArg (fun q => ∃ ds0, (s0 :: ρ0)[i]? = some (.own ds0) ∧ t (s0 :: ρ0) z q R.ex) (funext fun d => funext fun ρ' => funext fun z' => ?_)
  cases d <;> cases ρ'[i]? <;> first | rfl | (rename_i s; cases s <;> rfl)
theorem e_extD (ds es : List D) (k : List D → Prop) : extD (some (.own ds)) (.lst es) k = (ds.length + es.length ≤ sizeLine ∧ k (ds ++ es)) := rfl
end Lay

set_option Elab.async false
set_option linter.all false
set_option maxRecDepth 100000
set_option maxHeartbeats 2000000
namespace Lay
open PySem PySem.Spec PyProof.Rows L2
section
variable {X : Cx} {W : WX} {e a b : Expr} {pos : Pos}
/-! ### max(xs), min(xs) of a list of whole numbers -/
def bestD (r : Int → Int → Prop) : FnD
  | [.lst ds], k => ∃ ns : List Int, ds = ns.map D.int ∧ 0 < ns.length ∧ ∀ m, m ∈ ns → (∀ y, y ∈ ns → r y m) → k (.int m)
  | _, _ => False
theorem cd_maxL (hc : X.calm = true) : CallR X (.builtin "max") (CallU X.K (bestD (· ≤ ·))) := by
  rintro pins s σ H xs us Q I r ⟨N, z, ds, R, al, rp, h, k⟩
  unfold bestD at h
  split at h
  · obtain ⟨v, rfl, r1⟩ := rp.one
    obtain ⟨a, vs, rfl, q1, q2⟩ := r1.lst
    obtain ⟨ns, rfl, h0, h⟩ := h
    obtain rfl := q2.toInts
    exact cr_max hc pins s σ H _ us Q I r ⟨a, ns, rfl, SqL.of q1, h0, fun m hm hy => k _ _ H (h m hm hy) same0 .i⟩
  · exact h.elim
theorem cd_minL (hc : X.calm = true) : CallR X (.builtin "min") (CallU X.K (bestD (· ≥ ·))) := by
  rintro pins s σ H xs us Q I r ⟨N, z, ds, R, al, rp, h, k⟩
  unfold bestD at h
  split at h
  · obtain ⟨v, rfl, r1⟩ := rp.one
    obtain ⟨a, vs, rfl, q1, q2⟩ := r1.lst
    obtain ⟨ns, rfl, h0, h⟩ := h
    obtain rfl := q2.toInts
    exact cr_min hc pins s σ H _ us Q I r ⟨a, ns, rfl, SqL.of q1, h0, fun m hm hy => k _ _ H (h m hm hy) same0 .i⟩
  · exact h.elim
theorem ap_best (r : Int → Int → Prop) (ds : List D) (k : D → Prop) : bestD r [.lst ds] k = ∃ ns : List Int, ds = ns.map D.int ∧ 0 < ns.length ∧ ∀ m, m ∈ ns → (∀ y, y ∈ ns → r y m) → k (.int m) := rfl
end
end Lay

set_option Elab.async false
set_option linter.all false
set_option maxRecDepth 100000
set_option maxHeartbeats 2000000
namespace Lay
open PySem PySem.Spec PyProof.Rows L2
section
variable {X : Cx} {W : WX} {e a b tg o : Expr} {es : List Expr} {pos p : Pos}
/-! ### for x in reversed(a list or a tuple) -/
theorem walkd_rev {K : PySem.W.Frag} {a : Addr} {ds : List D} {vs : List V} {N : Addr → Prop} {H : Hp} (h : LstAt K N H a vs) (r : Reps K N H ds vs) : WalkD K (Itv K a vs.length) ds.reverse N H := fun N' H' e al => by
  have h' : LstAt K N' H' a vs := by
    rcases h with ⟨n, h⟩ | h
    · exact .inl (e.rd n h)
    · exact .inr h
  have r' := Reps.mono e _ _ r
  have hl := r'.length
  refine ⟨fun i hi => ?_, by rw [List.length_reverse, hl]; exact Nat.le_refl _, fun i x H'' d hd y => ?_⟩
  · rw [List.length_reverse, hl] at hi
    exact ⟨hi, vs, vs[vs.length - 1 - i], h'.sq, List.getElem?_eq_getElem (by omega)⟩
  · obtain ⟨rfl, y⟩ := y
    have hi := lt_of_get hd
    rw [List.length_reverse] at hi
    rw [List.getElem?_reverse hi] at hd
    obtain ⟨v, e1, e2⟩ := r'.get hd
    have := y vs h'.sq
    rw [← hl, e1] at this
    cases this
    exact ⟨same0, e2⟩
theorem walkd_revT {K : PySem.W.Frag} {a : Addr} {ds : List D} {vs : List V} {N : Addr → Prop} {H : Hp} (h : TupAt K N H a vs) (r : Reps K N H ds vs) : WalkD K (RT.ItvT K a vs.length) ds.reverse N H := fun N' H' e al => by
  have h' : TupAt K N' H' a vs := by
    rcases h with ⟨n, h⟩ | h
    · exact .inl (e.rd n h)
    · exact .inr h
  have r' := Reps.mono e _ _ r
  have hl := r'.length
  refine ⟨fun i hi => ?_, by rw [List.length_reverse, hl]; exact Nat.le_refl _, fun i x H'' d hd y => ?_⟩
  · rw [List.length_reverse, hl] at hi
    exact ⟨hi, vs, vs[vs.length - 1 - i], h'.sq, List.getElem?_eq_getElem (by omega)⟩
  · obtain ⟨rfl, y⟩ := y
    have hi := lt_of_get hd
    rw [List.length_reverse] at hi
    rw [List.getElem?_reverse hi] at hd
    obtain ⟨v, e1, e2⟩ := r'.get hd
    have := y vs h'.sq
    rw [← hl, e1] at this
    cases this
    exact ⟨same0, e2⟩
def revF : D → (List D → Prop) → Prop
  | .lst ds, k => k ds.reverse
  | .rol ds, k => k ds.reverse
  | .tup ds, k => k ds.reverse
  | _, _ => False
def dItR (t : DX D) : DX (List D) := fun ρ z R RX => t ρ z (fun d ρ' z' => revF d fun ds => R ds ρ' z') RX
theorem di_rev {t : DX D} (hg : Gl X "reversed") (hm : X.mg "reversed" = none) (he : DE X W e t) (hs : starEach [e] X.env = (false, eval e X.env) :: starEach [] X.env := by rfl) :
    DI X W tg (.Call (.Name "reversed" p) [e] [] pos) (dItR t) := pi_to (RT.pi_revA hg hm he hs) fun σ H Q ⟨M, ρ, z, O, R, RX, w, h, x, k⟩ =>
  ⟨M, ρ, z, O, _, RX, w, h, x, fun d ρ' z' v H' O' hd g w' r => by
    cases d with
    | lst ds =>
      obtain ⟨a, vs, rfl, h1, h2⟩ := lstAt_of r
      exact ⟨a, vs, rfl, .inl ⟨h1.sq, k _ ρ' z' H' O' _ hd g w' (walkd_rev h1 h2)⟩⟩
    | rol ds =>
      obtain ⟨a, vs, rfl, h1, h2⟩ := rolAt_of r
      exact ⟨a, vs, rfl, .inl ⟨h1.sq, k _ ρ' z' H' O' _ hd g w' (walkd_rev h1 h2)⟩⟩
    | tup ds =>
      obtain ⟨a, vs, rfl, h1, h2⟩ := tupAt_of r
      exact ⟨a, vs, rfl, .inr ⟨h1.sq, k _ ρ' z' H' O' _ hd g w' (walkd_revT h1 h2)⟩⟩
    | _ => exact hd.elim⟩
theorem ap_dItR (t : DX D) (s0 : Sl) (ρ0 : List Sl) (z : Z) (R : List D → List Sl → Z → Prop) (RX : KX) : dItR t (s0 :: ρ0) z R RX = t (s0 :: ρ0) z (fun d ρ' z' => revF d fun ds => R ds ρ' z') RX := rfl
theorem e_revF1 (ds : List D) (k : List D → Prop) : revF (.lst ds) k = k ds.reverse := rfl
theorem e_revF2 (ds : List D) (k : List D → Prop) : revF (.rol ds) k = k ds.reverse := rfl
theorem e_revF3 (ds : List D) (k : List D → Prop) : revF (.tup ds) k = k ds.reverse := rfl
/-! ### try: .. except c: .. -/
def dTryN (K : PySem.W.Frag) (c : Value) (body suite : DTS) : DTS := fun R ρ z => body { nx := R.nx, rt := R.rt, bk := R.bk, ct := R.ct, ex := fun C ns ds ρ' z' => ∃ b, PySem.W.exmOne K (.ref C) c = some b ∧ (b = true → suite R ρ' z') ∧ (b = false → R.ex C ns ds ρ' z') } ρ z
theorem ds_tryN {x : Str} {c : Value} {body suite : List Stmt} {b₀ : Stmt} {np pos' : Pos} {tb ts : DTS} {Wout : WX} (hs : X.stack = X.env :: X.outer) (hf : X.env.frame = some X.env.locals) (hc : Names X x c) (tk : Takes X Wout)
    (hb : ∀ (W : WX) (pn : List (Addr × Obj)) (xe : Value → Shared → Prop), Takes (X.tr pn xe) W → PassesOwn (model X.prog X.w) X.A X.env xe → DSs (X.tr pn xe) W body tb)
    (hsu : ∀ (a : Addr) (oe : Obj) (cls : Value) (d : Option Addr) (pn : List (Addr × Obj)), Zc cls d oe → (∃ vs, oe.data = .fields vs) → DSs (X.suite a ((a, oe) :: pn)) Wout (b₀ :: suite) ts) :
    DS X Wout (.Try body [.ExceptHandler (some (.Name x np)) none (b₀ :: suite) pos'] [] [] pos) (dTryN X.K c tb ts) := by
  refine ps_to (ps_try_only (tb := fun W => US X.K W tb) (ts := fun a cls d => US X.K Wout ts) hs hf hc tk hb hsu) fun D σ H ⟨M, ρ, z, O, R, w, h, k⟩ => ?_
  exact ⟨M, ρ, z, O, _, w, h, k.nx, k.bk, k.ct, k.rt, fun C ns ds ρ' z' od H' O' σ' ⟨b, e, h1, h2⟩ g w' ex => ⟨b, e, fun hbt a ha => ⟨M, ρ', z', O', R, w', h1 hbt, k.after g⟩, fun hbf => k.ex C ns ds ρ' z' od H' O' σ' (h2 hbf) g w' ex⟩⟩
theorem ap_dTryN (K : PySem.W.Frag) (c : Value) (body suite : DTS) (R : DEnds) (s0 : Sl) (ρ0 : List Sl) (z : Z) : dTryN K c body suite R (s0 :: ρ0) z =
    body { nx := R.nx, rt := R.rt, bk := R.bk, ct := R.ct, ex := fun C ns ds ρ' z' => ∃ b, PySem.W.exmOne K (.ref C) c = some b ∧ (b = true → suite R ρ' z') ∧ (b = false → R.ex C ns ds ρ' z') } (s0 :: ρ0) z := rfl
/-! ### an own exception without its own __init__ -/
structure ExcUn (K : PySem.W.Frag) (mg : Str → Option Value) (x : Str) (C : Addr) : Prop where
  q : PySem.W.excIn K C [.type "ValueError", .type "Exception", .type "BaseException", .type "object"] "ValueError.__new__" = true
  g : mg x = some (.ref C)
  k : PySem.W.keepIn K (.ref C) = true
  b : PySem.W.subIn K (.ref C) (.type "BaseException") = some true
  t : PySem.W.typeIn K (.ref C) = some (.type "type")
  te : PySem.W.exmOne K (.ref C) (.ref C) = some true
theorem ExcUn.mgx {K : PySem.W.Frag} {mg : Str → Option Value} {x : Str} {C : Addr} (E : ExcUn K mg x C) : mg x = some (.ref C) := E.g
def dRaiseU (C : Addr) : DTS := fun R ρ z => R.ex C [] [] ρ z
theorem ExcUn.dRaise {x m : Str} {C : Addr} {j : Nat} {p2 pos2 : Pos} (E : ExcUn X.K X.mg x C) (hc : X.calm = true) (hG : Gl X x) (tk : Takes X W) (hdb : (x == ("__debug__" : Str)) = false := by decide) :
    DS X W (.Raise (some (.Call (.Name x p) [.Constant (.str m) j p2] [] pos)) none pos2) (dRaiseU C) :=
  ps_to (ps_raise hc tk (pmk_own PySem.F.excBase_ValueError E.q E.g E.k (raises_own E.b E.t) hG hdb)) fun D σ H ⟨M, ρ, z, O, R, w, h, k⟩ => k.ex C [] [] ρ z none H O σ h .refl w ⟨rfl, rfl⟩
theorem ap_dRaiseU (C : Addr) (R : DEnds) (s0 : Sl) (ρ0 : List Sl) (z : Z) : dRaiseU C R (s0 :: ρ0) z = R.ex C [] [] (s0 :: ρ0) z := rfl
/-! ### a dict of the module with text keys -/
structure KTab (K : PySem.W.Frag) (w : World) (d : Addr) (tab : List (Str × Option D)) : Prop where
  at_ : ∃ es n, KDict K w d es n
  get : ∀ q ∈ tab, ∃ r, PySem.W.nsIn K d q.1 = some r ∧ ((q.2 = none ∧ r = none) ∨ ∃ x u v, q.2 = some x ∧ r = some u ∧ RelV v u ∧ ∀ N H, Rep K N H x v)
def kinD (d : Addr) (tab : List (Str × Option D)) (f : Bool → Bool) : Op2 := fun d1 d2 k => ∃ z o, d1 = .str z ∧ d2 = .adr d ∧ (z, o) ∈ tab ∧ k (.bl (f o.isSome))
theorem KTab.sm {K : PySem.W.Frag} {w : World} {d : Addr} {tab : List (Str × Option D)} (T : KTab K w d tab) {z : Str} {o : Option D} (m : (z, o) ∈ tab) : ∃ r, PySem.W.nsIn K d z = some r ∧ r.isSome = o.isSome := by
  obtain ⟨r, e, h⟩ := T.get _ m
  refine ⟨r, e, ?_⟩
  rcases h with ⟨h1, h2⟩ | ⟨x, u, v, h1, h2, _⟩
  · have h1' : o = none := h1
    rw [h1', h2]; rfl
  · have h1' : o = some x := h1
    rw [h1', h2]; rfl
theorem od_kin {d : Addr} {tab : List (Str × Option D)} (T : KTab X.K X.w d tab) : OpR X (compareOp .In) (OpU X.K (kinD d tab id)) := by
  rintro pins s σ H x y v u Q I rx ry ⟨N, z, d1, d2, R, al, r1, r2, ⟨zz, o, rfl, rfl, m, h⟩, k⟩
  obtain rfl := r1.str
  obtain rfl := r2.adr
  obtain ⟨r, e, hr⟩ := T.sm m
  obtain ⟨es, n, hk⟩ := T.at_
  exact op_in_kd hk pins s σ H _ _ v u Q I rx ry ⟨zz, r, rfl, rfl, e, by rw [hr]; exact k _ _ H h same0 .b⟩
theorem od_knotIn {d : Addr} {tab : List (Str × Option D)} (T : KTab X.K X.w d tab) : OpR X (compareOp .NotIn) (OpU X.K (kinD d tab not)) := by
  rintro pins s σ H x y v u Q I rx ry ⟨N, z, d1, d2, R, al, r1, r2, ⟨zz, o, rfl, rfl, m, h⟩, k⟩
  obtain rfl := r1.str
  obtain rfl := r2.adr
  obtain ⟨r, e, hr⟩ := T.sm m
  obtain ⟨es, n, hk⟩ := T.at_
  exact op_notIn_kd hk pins s σ H _ _ v u Q I rx ry ⟨zz, r, rfl, rfl, e, by rw [hr]; exact k _ _ H h same0 .b⟩
def kixD (d : Addr) (tab : List (Str × Option D)) : Op2 := fun d1 d2 k => ∃ z x, d1 = .adr d ∧ d2 = .str z ∧ (z, some x) ∈ tab ∧ k x
theorem od_kix {d : Addr} {tab : List (Str × Option D)} (T : KTab X.K X.w d tab) : IxR X (OpU X.K (kixD d tab)) := by
  rintro value slice pins s σ H x y v u Q I rx ry ⟨N, z, d1, d2, R, al, r1, r2, ⟨zz, xx, rfl, rfl, m, h⟩, k⟩ hs
  obtain rfl := r1.adr
  obtain rfl := r2.str
  obtain ⟨r, e, hr⟩ := T.get _ m
  obtain ⟨es, n, hk⟩ := T.at_
  rcases hr with ⟨h1, _⟩ | ⟨x', u', v', h1, rfl, h3, h4⟩
  · cases h1
  · cases h1
    exact ix_kdict value slice pins s σ H _ _ v u Q I rx ry ⟨d, zz, v', rfl, rfl, ⟨es, n, u', hk.at_, hk.lit, e, h3⟩, k _ _ H h same0 (h4 _ _)⟩ hs
/-! ### x.split(y) as a new list -/
def splitN : Str → List D → (List D → Prop) → Prop
  | z, [.str y], k => (y.length == 0) = false ∧ z.length + 2 ≤ sizeLine ∧ k ((Txt.split z y).map .str)
  | _, _, _ => False
def dSplitN (to : DX D) (t : DX (List D)) : DX (List D) := fun ρ z R RX => to ρ z (fun d ρ1 z1 => ∃ y, d = .str y ∧ t ρ1 z1 (fun ds ρ2 z2 => splitN y ds fun es => R es ρ2 z2) RX) RX
theorem dn_split {apos : Pos} {to : DX D} {t : DX (List D)} (ho : DP X W o to) (ha : DA X W (e :: es) t)
    (hbase : attributeBase o "split" X.env (eval o X.env) = eval o X.env := by rfl)
    (hfew : ((backTo pos (starEach (e :: es) X.env)).all (fun x => !x.1) && (backToKw pos (keywordEach [] X.env)).all (fun x => x.1.isSome)
      && decide ((e :: es).length + ([] : List Keyword).length + (if ([] : List Keyword).isEmpty then 0 else 1) < 30)) = true := by rfl)
    (hline : (apos.endLine == pos.line) = true := by rfl) (hs : starEach (e :: es) X.env = (false, eval e X.env) :: starEach es X.env := by rfl) (hplain : (backTo pos (starEach es X.env)).any (·.1) = false := by rfl) :
    DN X W (.Call (.Attribute o "split" apos) (e :: es) [] pos) (dSplitN to t) := pe_to (pe_bm PySem.F.plainAttrs_str PySem.F.slot_str_split PySem.F.type_str_split mt_split ho ha hbase hfew hline hs hplain) fun σ H Q ⟨M, ρ, z, O, R, RX, w, h, x, k⟩ => by
  refine ⟨M, ρ, z, O, _, RX, w, h, x, fun d ρ1 z1 v H1 O1 ⟨y, hy, hd⟩ g1 w1 r1 => ?_⟩
  subst hy
  obtain rfl := r1.str
  refine ⟨rfl, M, ρ1, z1, O1, _, RX, w1, hd, x.after g1.toGo, fun ds ρ2 z2 vs H2 O2 h2 g2 w2 r2 => ?_⟩
  unfold splitN at h2
  split at h2
  · obtain ⟨w', rfl, r3⟩ := r2.one
    obtain rfl := r3.str
    exact ⟨_, _, rfl, rfl, h2.1, h2.2.1, fun p hp => k _ ρ2 z2 p _ H2 _ O2 h2.2.2 (g1.trans g2) w2 (same_new hp) hp upd_same Reps.strs⟩
  · exact h2.elim
theorem ap_dSplitN (to : DX D) (t : DX (List D)) (s0 : Sl) (ρ0 : List Sl) (z : Z) (R : List D → List Sl → Z → Prop) (RX : KX) : dSplitN to t (s0 :: ρ0) z R RX = to (s0 :: ρ0) z (fun d ρ1 z1 => ∃ y, d = .str y ∧ t ρ1 z1 (fun ds ρ2 z2 => splitN y ds fun es => R es ρ2 z2) RX) RX := rfl
theorem e_splitN (z y : Str) (k : List D → Prop) : splitN z [.str y] k = ((y.length == 0) = false ∧ z.length + 2 ≤ sizeLine ∧ k ((Txt.split z y).map .str)) := rfl
/-! ### x[i] = e, x an own list -/
def setD (s : Option Sl) (i d : D) (k : List D → Prop) : Prop := match s, i with
  | some (.own ds), .int j => ∃ n, ixN ds.length j = some n ∧ k (ds.set n d)
  | _, _ => False
def dSetIx (i : Nat) (te ti : DX D) : DTS := fun R ρ z => te ρ z (fun d ρ1 z1 => ∃ ds0, ρ1[i]? = some (.own ds0) ∧ ti ρ1 z1 (fun j ρ2 z2 => setD (ρ2[i]?) j d fun es => R.nx (ρ2.set i (.own es)) z2) R.ex) R.ex
theorem Reps.set {K : PySem.W.Frag} {N : Addr → Prop} {H : Hp} {d : D} {v : V} (r1 : Rep K N H d v) : ∀ {ds : List D} {vs : List V} (n : Nat), Reps K N H ds vs → Reps K N H (ds.set n d) (vs.set n v)
  | [], vs, n, r => by
    rw [Reps] at r; subst r
    rw [List.set_nil, List.set_nil]; exact .nil
  | d0 :: ds, vs, 0, r => by
    rw [Reps] at r
    obtain ⟨v0, q, rfl, r2, r3⟩ := r
    exact .cons r1 r3
  | d0 :: ds, vs, n + 1, r => by
    rw [Reps] at r
    obtain ⟨v0, q, rfl, r2, r3⟩ := r
    exact .cons r2 (Reps.set r1 n r3)
theorem ds_setIx {i : Nat} {x : Str} {te ti : DX D} {ie : Expr} {xpos spos : Pos} (hN : X.N[i]? = some x) (he : DE X W e te) (hi : DE X W ie ti)
    (hv : Vis X.env.scope x := by first | exact Or.inl rfl | exact Or.inr (Or.inl rfl) | exact Or.inr (Or.inr rfl)) (hd : (x == ("__debug__" : Str)) = false := by decide)
    (hcd : (x == ("__classdict__" : Str)) = false := by decide)
    (hs : swapsWithSole [.Subscript (.Name x xpos) ie spos] e pos.line X.env = pure false := by rfl) (hw : swappedStores [.Subscript (.Name x xpos) ie spos] e X.env = pure none := by rfl)
    (h1 : (assignEach [.Subscript (.Name x xpos) ie spos] X.env).map (·.2) = [assign (.Subscript (.Name x xpos) ie spos) X.env] := by rfl)
    (ha : ∀ v, assign (.Subscript (.Name x xpos) ie spos) X.env v = (do
      let ov ← holding [v] (eval (.Name x xpos) X.env)
      let iv ← holding [v, ov] (eval ie X.env)
      standAt spos
      holding [v, ov, iv] (setItem ov iv v)
      release [v, ov, iv] []) := by intro _; rfl) :
    DS X W (.Assign [.Subscript (.Name x xpos) ie spos] e pos) (dSetIx i te ti) := by
  refine ps_to (ps_asg he (pg_sub (pe_var hN hv hd hcd) hi set_list ha) hs hw h1) fun D σ H ⟨M, ρ, z, O, R, w, h, k⟩ => ?_
  refine ⟨M, ρ, z, O, _, R.ex, w, h, k.ex, fun d ρ1 z1 v H1 O1 ⟨ds0, h0, hd1⟩ g1 w1 r1 => ?_⟩
  obtain ⟨a0, vs0, q1, q2, q3, q4⟩ := w1.sl i _ h0
  have k1 := k.after g1.toGo
  refine ⟨_, join_some q2, M, ρ1, z1, O1, _, R.ex, w1, hd1, k1.ex, fun j ρ2 z2 u H2 O2 hd2 g2 w2 r2 => ?_⟩
  unfold setD at hd2
  split at hd2
  · rename_i ds jj e1
    obtain ⟨n, hn, hd2⟩ := hd2
    obtain ⟨a, vs, p1, p2, p3, p4⟩ := w2.sl i _ e1
    have ea : a = a0 := by rw [q2] at p2; cases p2; rfl
    subst ea
    obtain rfl := RepP.int (z := z2) (.inl r2)
    refine ⟨a, vs, jj, n, rfl, rfl, p3, by rw [← p4.length]; exact hn, ?_⟩
    have na : ∀ (c : Addr) (o : HO), H2 c = some o → ¬ NN M z2 O2 c → (upd H2 a (.lst (vs.set n v))) c = some o := fun c o e nn => by rw [upd_ne (fun q => nn (.inr (.inr ⟨i, by rw [q]; exact p1⟩)))]; exact e
    have rv := Rep.mono g2.ext _ _ r1
    obtain ⟨w3, g3⟩ := w2.wrote p1 (o := .lst (vs.set n v)) (s := .own (ds.set n d)) (lt_of_get e1) ⟨a, vs.set n v, rfl, p2, upd_same, Reps.mono ⟨na, fun b h => .inl h⟩ _ _ (Reps.set rv n p4)⟩
    exact k1.nx _ z2 σ _ O2 hd2 (g2.toGo.trans g3) w3
  · exact hd2.elim
theorem ap_dSetIx (i : Nat) (te ti : DX D) (R : DEnds) (s0 : Sl) (ρ0 : List Sl) (z : Z) : dSetIx i te ti R (s0 :: ρ0) z = te (s0 :: ρ0) z (fun d ρ1 z1 => ∃ ds0, ρ1[i]? = some (.own ds0) ∧ ti ρ1 z1 (fun j ρ2 z2 => setD (ρ2[i]?) j d fun es => R.nx (ρ2.set i (.own es)) z2) R.ex) R.ex := rfl
theorem e_setD (ds : List D) (j : Int) (d : D) (k : List D → Prop) : setD (some (.own ds)) (.int j) d k = ∃ n, ixN ds.length j = some n ∧ k (ds.set n d) := rfl
end
/-! ### defs with defaults, called by less -/
theorem FunD_kbL {K : PySem.W.Frag} {x qual : Str} {params : Arguments} {body : List Stmt} {scope : Scope} {dvs : List V} {f : Addr} {fd : FuncData} {ps : List Str} (F : FunD K x qual params body scope dvs [] f fd) (n : Nat) (ks : List Str)
    (g : List Value → List Value → List Value → List Value) (gV : List V → List V → List V) (hd : dvs ≠ [])
    (hrel : ∀ (vs zs : List V) (us its ws : List Value), vs.length = n → zs.length = ks.length → Vals vs us → Vals dvs its → Vals zs ws → Vals (gV vs zs) (g us its ws))
    (h : ∀ (T : Addr) (kV doc pm : Value) (an : Option Addr) (cdv ct : Value) (us its ws : List Value), us.length = n → its.length = dvs.length → ws.length = ks.length →
      ∃ k, bindArgs (PySem.W.fnOf x qual params body scope (.ref T) kV doc pm an cdv ct) ⟨us, ks.zip ws⟩ = seqItems? (.ref T) >>= k ∧ k (some its.toArray) = pure (ps.zip (g us its ws))) : ∃ g', KwB K fd ps n ks g' gV := by
  obtain ⟨oc, od, dV, kV, doc, pm, an, cdv, ct, osl, rfl, lk, hcd, hD, hK⟩ := F.ex
  rcases hD with ⟨e, _⟩ | ⟨_, T, o, its, m, rfl, lT, oT, rT⟩
  · exact absurd e hd
  · refine ⟨fun us ws => g us its ws, ⟨fun s us ws X l1 l2 => ?_, fun vs zs us ws l1 l2 r1 r2 => hrel vs zs us its ws l1 l2 r1 rT r2⟩⟩
    obtain ⟨k, e1, e2⟩ := h T kV doc pm an cdv ct us its ws l1 rT.length.symm l2
    refine BindsTo.of_looks fun M => ?_
    rw [e1]
    exact looks_items X lT oT (.of_pure e2)
section
variable {X : Cx} {W : WX} {e o : Expr} {es : List Expr} {pos p apos : Pos} {CX : CXT} {k n j : Nat} {ks ps : List Str} {x : Str} {C : Addr} {m : Str} {D' : Addr → FuncData → Prop} {sp : PSp} {isp : ISp} {kws : List Keyword} {gV : List V → List V → List V} {gD : List D → List D → List D} {pl : Sem Bool}
theorem Method.dkwG {to : DX D} {t tk : DX (List D)} {E : L2.St → XK} (M : Method X.prog X.w X.K X.mg X.base CX k C m D' ps (lift X.K sp)) (kd : KwD (n + 1) ks.length gV gD) (hb : ∀ (f : Addr) (fd : FuncData), D' f fd → ∃ g, KwB X.K fd ps (n + 1) ks g gV) (he : DE X W o to) (hr : Room j X.A) (hg : X.A.guards = some [])
    (hx : ∀ σ, PassesAt CX X σ (E σ)) (ha : DAs X W (e :: es) t) (hkw : DKw X W kws tk) (hj : k ≤ j := by decide) (hall : (backToKw pos (keywordEach kws X.env)).all (·.1.isSome) = true := by rfl) (hks : (backToKw pos (keywordEach kws X.env)).filterMap (·.1) = ks := by rfl)
    (hst : starEach (e :: es) X.env = (false, eval e X.env) :: starEach es X.env := by rfl) (hpl : ((backTo pos (starEach (e :: es) X.env)).any (·.1) || (backToKw pos (keywordEach kws X.env)).any (·.1.isNone)) = false := by rfl)
    (ht : eval (.Call (.Attribute o m apos) (e :: es) kws pos) X.env = (do
      let ov ← eval o X.env
      standAt apos.atName
      let (f, first) ← holding [ov] (getMethod ov m pl)
      callWith pos f first (backTo pos (starEach (e :: es) X.env)) (backToKw pos (keywordEach kws X.env))) := by rfl) :
    DE X W (.Call (.Attribute o m apos) (e :: es) kws pos) (dMethKw C m n ks.length gD sp to t tk) := by
  obtain ⟨f, fd, h1, h2, h3, h4, h5⟩ := M.ex
  obtain ⟨g, q⟩ := hb f fd h3
  exact Method.dkw (D' := fun f' fd' => f' = f ∧ fd' = fd) (g := g) ⟨⟨f, fd, h1, h2, ⟨rfl, rfl⟩, h4, h5⟩⟩ kd (fun _ _ z => by obtain ⟨rfl, rfl⟩ := z; exact q) he hr hg hx ha hkw hj hall hks hst hpl ht
theorem Method.dkw0G {to : DX D} {tk : DX (List D)} {E : L2.St → XK} (M : Method X.prog X.w X.K X.mg X.base CX k C m D' ps (lift X.K sp)) (kd : KwD 1 ks.length gV gD) (hb : ∀ (f : Addr) (fd : FuncData), D' f fd → ∃ g, KwB X.K fd ps 1 ks g gV) (he : DE X W o to) (hr : Room j X.A) (hg : X.A.guards = some [])
    (hx : ∀ σ, PassesAt CX X σ (E σ)) (hkw : DKw X W kws tk) (hj : k ≤ j := by decide) (hall : (backToKw pos (keywordEach kws X.env)).all (·.1.isSome) = true := by rfl) (hks : (backToKw pos (keywordEach kws X.env)).filterMap (·.1) = ks := by rfl)
    (hpl : ((backTo pos (starEach [] X.env)).any (·.1) || (backToKw pos (keywordEach kws X.env)).any (·.1.isNone)) = false := by rfl)
    (ht : eval (.Call (.Attribute o m apos) [] kws pos) X.env = (do
      let ov ← eval o X.env
      standAt apos.atName
      let (f, first) ← holding [ov] (getMethod ov m pl)
      callWith pos f first (backTo pos (starEach [] X.env)) (backToKw pos (keywordEach kws X.env))) := by rfl) :
    DE X W (.Call (.Attribute o m apos) [] kws pos) (dMethKw C m 0 ks.length gD sp to dNil tk) := by
  obtain ⟨f, fd, h1, h2, h3, h4, h5⟩ := M.ex
  obtain ⟨g, q⟩ := hb f fd h3
  exact Method.dkw0 (D' := fun f' fd' => f' = f ∧ fd' = fd) (g := g) ⟨⟨f, fd, h1, h2, ⟨rfl, rfl⟩, h4, h5⟩⟩ kd (fun _ _ z => by obtain ⟨rfl, rfl⟩ := z; exact q) he hr hg hx hkw hj hall hks hpl ht
theorem Maker.dkwG {t tk : DX (List D)} (M : Maker X.prog X.w X.K X.mg X.base CX k x C D' ps (liftI X.K C isp)) (kd : KwM n ks.length gV gD) (hb : ∀ (f : Addr) (fd : FuncData), D' f fd → ∃ g, KwB X.K fd ps (n + 1) ks g gV) (hG : Gl X x) (hr : Room j X.A) (hg : X.A.guards = some [])
    (hx : ∀ σ, PassesAt CX X σ (WE W σ)) (ha : DAs X W (e :: es) t) (hkw : DKw X W kws tk) (hj : k + 1 ≤ j := by decide)
    (hall : (backToKw pos (keywordEach kws X.env)).all (·.1.isSome) = true := by rfl) (hks : (backToKw pos (keywordEach kws X.env)).filterMap (·.1) = ks := by rfl)
    (hdb : (x == ("__debug__" : Str)) = false := by decide) (he : starEach (e :: es) X.env = (false, eval e X.env) :: starEach es X.env := by rfl)
    (hpl : ((backTo pos (starEach (e :: es) X.env)).any (·.1) || (backToKw pos (keywordEach kws X.env)).any (·.1.isNone)) = false := by rfl) : DE X W (.Call (.Name x p) (e :: es) kws pos) (dMakeKw C n ks.length gD isp t tk) := by
  obtain ⟨f, fd, h1, h2, h3, h4, h5⟩ := M.ex
  obtain ⟨g, q⟩ := hb f fd h3
  exact Maker.dkw (D' := fun f' fd' => f' = f ∧ fd' = fd) (g := g) ⟨⟨f, fd, h1, h2, ⟨rfl, rfl⟩, h4, h5⟩⟩ kd (fun _ _ z => by obtain ⟨rfl, rfl⟩ := z; exact q) hG hr hg hx ha hkw hj hall hks hdb he hpl
theorem Maker.dkwEG {t tk : DX (List D)} {E : L2.St → XK} (M : Maker X.prog X.w X.K X.mg X.base CX k x C D' ps (liftI X.K C isp)) (kd : KwM n ks.length gV gD) (hb : ∀ (f : Addr) (fd : FuncData), D' f fd → ∃ g, KwB X.K fd ps (n + 1) ks g gV) (hG : Gl X x) (hr : Room j X.A) (hg : X.A.guards = some [])
    (hx : ∀ σ, PassesAt CX X σ (E σ)) (ha : DAs X W (e :: es) t) (hkw : DKw X W kws tk) (hj : k + 1 ≤ j := by decide)
    (hall : (backToKw pos (keywordEach kws X.env)).all (·.1.isSome) = true := by rfl) (hks : (backToKw pos (keywordEach kws X.env)).filterMap (·.1) = ks := by rfl)
    (hdb : (x == ("__debug__" : Str)) = false := by decide) (he : starEach (e :: es) X.env = (false, eval e X.env) :: starEach es X.env := by rfl)
    (hpl : ((backTo pos (starEach (e :: es) X.env)).any (·.1) || (backToKw pos (keywordEach kws X.env)).any (·.1.isNone)) = false := by rfl) : DE X W (.Call (.Name x p) (e :: es) kws pos) (dMakeKw0 C n ks.length gD isp t tk) := by
  obtain ⟨f, fd, h1, h2, h3, h4, h5⟩ := M.ex
  obtain ⟨g, q⟩ := hb f fd h3
  exact Maker.dkwE (D' := fun f' fd' => f' = f ∧ fd' = fd) (g := g) ⟨⟨f, fd, h1, h2, ⟨rfl, rfl⟩, h4, h5⟩⟩ kd (fun _ _ z => by obtain ⟨rfl, rfl⟩ := z; exact q) hG hr hg hx ha hkw hj hall hks hdb he hpl
end
end Lay

set_option Elab.async false
set_option linter.all false
set_option maxRecDepth 100000
set_option maxHeartbeats 2000000
namespace Lay
open PySem PySem.Spec PyProof.Rows L2
/-! ### zip of lists, tuples and texts of any kind -/
inductive ZS where
  | l (a : Addr) | t (a : Addr) | s (z : Str)
def signsV (z : Str) : List V := z.cps.toList.map fun c => V.str ⟨#[c]⟩
def ZS.at (K : PySem.W.Frag) (H : Hp) (p : ZS) (xs : List V) : Prop := match p with
  | .l a => SqL K H a xs
  | .t a => SqT K H a xs
  | .s z => xs = signsV z
def ZS.val : ZS → V → Prop
  | .l a, v => v = .ref a
  | .t a, v => v = .ref a
  | .s z, v => v = .str z
def ZS.cell : ZS → List Addr
  | .l a => [a]
  | .t a => [a]
  | .s _ => []
def ZS.it (k : Tok) (x : Addr) (i : Nat) (h : Heap) : ZS → Prop
  | .l a => h.IsListIter x a i
  | .t a => h.IsTupleIter x a i
  | .s z => h.IsStrIter x (strIterType z) z k i
theorem ZS.it_to {p : ZS} {k : Tok} {x : Addr} {i : Nat} {h h' : Heap} (e : ∀ o, h.get? x = some o → h'.get? x = some o) (q : p.it k x i h) : p.it k x i h' := by
  cases p with
  | l a => obtain ⟨o, ho, r⟩ := q; exact ⟨o, e o ho, r⟩
  | t a => obtain ⟨o, ho, r⟩ := q; exact ⟨o, e o ho, r⟩
  | s z => obtain ⟨o, ho, r⟩ := q; exact ⟨o, e o ho, r⟩
theorem ZS.it_obj {p : ZS} {k : Tok} {x : Addr} {i : Nat} {h : Heap} (q : p.it k x i h) : ∃ o, h.get? x = some o ∧ ∀ v, o.data ≠ .cell v := by
  cases p with
  | l a => obtain ⟨o, ho, _, d⟩ := q; exact ⟨o, ho, fun v z => by rw [d] at z; cases z⟩
  | t a => obtain ⟨o, ho, _, d⟩ := q; exact ⟨o, ho, fun v z => by rw [d] at z; cases z⟩
  | s z => obtain ⟨o, ho, _, d⟩ := q; exact ⟨o, ho, fun v z => by rw [d] at z; cases z⟩
theorem vals_at {xs : List V} {its : List Value} (r : Vals xs its) {i : Nat} {u : Value} (h : its[i]? = some u) : ∃ x, xs[i]? = some x ∧ RelV x u := by
  have hl := r.length
  have hi := (List.getElem?_eq_some_iff.mp h).1
  obtain ⟨u', e, q⟩ := r.get (List.getElem?_eq_getElem (show i < xs.length by omega))
  rw [h] at e; cases e
  exact ⟨_, List.getElem?_eq_getElem _, q⟩
section
variable {X : Cx} {pins : List (Addr × Obj)} {σ : L2.St} {H : Hp} {s : Shared}
theorem ZS.at_inj (I : Inv X pins σ H s) {p : ZS} {xs ys : List V} (h1 : p.at X.K H xs) (h2 : p.at X.K H ys) : xs = ys := by
  cases p with
  | l a => exact I.list_inj h1 h2
  | t a => exact I.tuple_inj h1 h2
  | s z => exact h1.trans h2.symm
theorem ZS.draws (I : Inv X pins σ H s) (hc : X.calm = true) {p : ZS} {xs : List V} (h : p.at X.K H xs) (k : Tok) {x : Addr} (ne : ∀ c ∈ p.cell, c ≠ x) :
    ∃ (St : Nat → Heap → Prop) (P : Nat → Value → Prop), Draws X.prog X.w X.A.in1 x (x :: p.cell) xs.length P St ∧ (∀ i, p.it k x i s.heap → St i s.heap) ∧ (∀ i h', St i h' → p.it k x i h') ∧ ∀ i v, P i v → ∃ y, xs[i]? = some y ∧ RelV y v := by
  have hh : X.A.in1.handled = none := I.ok.hd hc
  cases p with
  | l a =>
    obtain ⟨its, rv, pl, hz⟩ := I.list h
    have D := Draws.list (prog := X.prog) (w := X.w) hh x a (ne a (List.mem_singleton.mpr rfl)) its.toArray
    rw [show its.toArray.size = xs.length by rw [List.size_toArray]; exact rv.length.symm] at D
    exact ⟨_, _, D, fun i q => ⟨q, pl.isList⟩, fun i h' q => q.1, fun i v q => vals_at rv (by simpa using q)⟩
  | t a =>
    obtain ⟨its, rv, pl, hz⟩ := I.tuple h
    have D := Draws.tuple (prog := X.prog) (w := X.w) hh x a (ne a (List.mem_singleton.mpr rfl)) its.toArray
    rw [show its.toArray.size = xs.length by rw [List.size_toArray]; exact rv.length.symm] at D
    exact ⟨_, _, D, fun i q => ⟨q, pl⟩, fun i h' q => q.1, fun i v q => vals_at rv (by simpa using q)⟩
  | s z =>
    have h : xs = signsV z := h
    subst h
    have D := Draws.text (prog := X.prog) (w := X.w) hh x z k
    rw [show z.cps.size = (signsV z).length by unfold signsV; rw [List.length_map, Array.length_toList]] at D
    refine ⟨_, _, D, fun i q => q, fun i h' q => q, fun i v q => ?_⟩
    obtain ⟨c, u, e, rfl⟩ := q
    refine ⟨.str ⟨#[c]⟩, ?_, u, rfl⟩
    unfold signsV
    rw [List.getElem?_map, Array.getElem?_toList, e]; rfl
theorem ZS.begins (I : Inv X pins σ H s) {p : ZS} {xs : List V} {v : V} {u : Value} (h : p.at X.K H xs) (hv : p.val v) (r : RelV v u) :
    ∃ (o : Obj) (Hh : Heap → Prop) (k : Tok), Begins u o Hh ∧ Hh s.heap ∧ (∀ (h' : Heap) (x : Addr), h'.get? x = some o → p.it k x 0 h') ∧ ∀ c ∈ p.cell, c < s.heap.objs.size := by
  cases p with
  | l a =>
    cases hv; cases r
    obtain ⟨its, rv, pl, hz⟩ := I.list h
    exact ⟨_, _, 0, begins_list a its.toArray, pl.isList, fun h' x e => ⟨_, e, rfl, rfl⟩, fun c m => by rw [List.mem_singleton.mp m]; exact pl.lt⟩
  | t a =>
    cases hv; cases r
    obtain ⟨its, rv, pl, hz⟩ := I.tuple h
    obtain ⟨o1, ho1, _⟩ := id pl
    exact ⟨_, _, 0, begins_tuple a its.toArray, pl, fun h' x e => ⟨_, e, rfl, rfl⟩, fun c m => by rw [List.mem_singleton.mp m]; exact Heap.lt_size ho1⟩
  | s z =>
    cases hv
    obtain ⟨k, rfl⟩ := r
    exact ⟨_, _, k, begins_text z k, trivial, fun h' x e => ⟨_, e, rfl, rfl⟩, fun c m => nomatch m⟩
end
/-- the items of both, in new pairs -/
def ItzG (K : PySem.W.Frag) (p q : ZS) : It :=
  ⟨fun i H => ∃ (xs ys : List V) (x y : V), p.at K H xs ∧ q.at K H ys ∧ xs[i]? = some x ∧ ys[i]? = some y,
   fun i H v H' => ∃ T x y, v = .ref T ∧ H T = none ∧ H' = upd H T (.tup [x, y]) ∧ (∀ xs, p.at K H xs → xs[i]? = some x) ∧ ∀ ys, q.at K H ys → ys[i]? = some y,
   fun i H => ∃ xs ys : List V, p.at K H xs ∧ q.at K H ys ∧ i ≤ xs.length ∧ i ≤ ys.length ∧ (i = xs.length ∨ i = ys.length)⟩
theorem adn (n : Nat) : (n + 2 ≠ n + 4 ∧ n + 3 ≠ n + 4 ∧ n ≠ n + 4 ∧ n + 1 ≠ n + 4) ∧ (n + 2 ≠ n + 3 ∧ n + 2 ≠ n ∧ n + 2 ≠ n + 1) := by omega
theorem ad5 {n c : Nat} (h : c = n + 4 ∨ c = n + 2 ∨ c = n + 3 ∨ c = n ∨ c = n + 1) : n ≤ c ∧ c ≤ n + 4 := by omega
theorem sep_new {n : Nat} {p q : ZS} (h1 : ∀ c ∈ p.cell, c < n) (h2 : ∀ c ∈ q.cell, c < n) : ZipSep2 (n + 4) (n + 2) (n + 3) n (n + 1) (n :: p.cell) ((n + 1) :: q.cell) := by
  have no : ∀ {l : List Addr} {m a : Nat}, (∀ c ∈ l, c < n) → n ≤ m → m ≠ a → m ∉ a :: l := fun h hm ha z => by
    rcases List.mem_cons.mp z with e | e
    · exact ha e
    · exact absurd (h _ e) (Nat.not_lt.mpr hm)
  obtain ⟨⟨b1, b2, b3, b4⟩, b5, b6, b7⟩ := adn n
  exact ⟨b1, b2, b5, b6, List.mem_cons_self, no h1 (Nat.le_add_right _ _) (Ne.symm b3), no h1 (Nat.le_add_right _ _) (Nat.ne_of_gt (Nat.lt_add_of_pos_right (by decide))), b7, List.mem_cons_self, no h2 (Nat.le_add_right _ _) (Ne.symm b4),
    no h2 (Nat.le_add_right _ _) (show n + 3 ≠ n + 1 from fun e => by omega), no h2 (Nat.le_refl _) (Nat.ne_of_lt (Nat.lt_succ_self _)), no h1 (Nat.le_succ _) (Nat.ne_of_gt (Nat.lt_succ_self _))⟩
theorem turn_zipG {P : Program} {w : World} {K : PySem.W.Frag} {elts : List Expr} {kk : Nat} {tpos : Pos} {p q : ZS} {k1 k2 : Tok} {n : Nat} (s1 : ∀ c ∈ p.cell, c < n) (s2 : ∀ c ∈ q.cell, c < n) :
    Turn P w K (.Tuple elts kk tpos) (ItzG K p q) [n + 4, n + 2, n + 3, n, n + 1] (n + 4) (fun i h => IsZip h (n + 4) (n + 2) (n + 3) .none ∧ IsTupOf2 h (n + 2) (.ref n) (.ref (n + 1)) ∧ (∃ x y, IsTupOf2 h (n + 3) x y) ∧ p.it k1 n i h ∧ q.it k2 (n + 1) i h) where
  mem := List.mem_cons_self
  obj := fun i h st c hc => by
    obtain ⟨a1, a2, ⟨x, y, a3⟩, a4, a5⟩ := st
    simp only [List.mem_cons, List.not_mem_nil, or_false] at hc
    rcases hc with e | e | e | e | e
    · subst e; exact ⟨_, a1, fun v z => nomatch z⟩
    · subst e; exact ⟨_, a2, fun v z => nomatch z⟩
    · subst e; exact ⟨_, a3, fun v z => nomatch z⟩
    · subst e; exact ZS.it_obj a4
    · subst e; exact ZS.it_obj a5
  keep := fun i h h' st k => by
    obtain ⟨a1, a2, ⟨x, y, a3⟩, a4, a5⟩ := st
    exact ⟨k _ (by simp) _ a1, k _ (by simp) _ a2, ⟨x, y, k _ (by simp) _ a3⟩, ZS.it_to (fun o e => k _ (by simp) o e) a4, ZS.it_to (fun o e => k _ (by simp) o e) a5⟩
  item := by
    intro X hP hw hK hc i pins s σ H E I hf st hg
    subst hP hw hK
    obtain ⟨a1, a2, ⟨x0, y0, a3⟩, a4, a5⟩ := st
    obtain ⟨xs, ys, x, y, hp, hq, hx, hy⟩ := hg
    obtain ⟨St1, P1, D1, u1, v1, w1⟩ := ZS.draws I hc hp k1 (x := n) fun c m => Nat.ne_of_lt (s1 c m)
    obtain ⟨St2, P2, D2, u2, v2, w2⟩ := ZS.draws I hc hq k2 (x := n + 1) fun c m => Nat.ne_of_lt (Nat.lt_succ_of_lt (s2 c m))
    have nz : n + 4 < s.heap.objs.size := Heap.lt_size a1
    refine wpAny_pyNext_zipD2_item (sep_new s1 s2) D1 D2 a1 a2 a3 (u1 i a4) (u2 i a5) (lt_of_get hx) (lt_of_get hy) fun b1 b2 h' tk p1 p2 z' t' i1 i2 hT hsz hk => ?_
    obtain ⟨x', ex, r1⟩ := w1 i b1 p1
    obtain ⟨y', ey, r2⟩ := w2 i b2 p2
    rw [hx] at ex; cases ex
    rw [hy] at ey; cases ey
    refine ⟨_, rfl, wpAny_letOwnedTupleGo_zip (s := ⟨h', s.gens, s.drawn, tk, s.os⟩) z' fun h2 z2 sb => ?_⟩
    have at2 : ∀ c o, c ≠ n + 4 → h'.get? c = some o → h2.get? c = some o := fun c o hc e => (sb.2 c hc).trans e
    have hT2 := at2 _ _ (Nat.ne_of_gt nz) hT
    have ok : ObjOk X.prog X.w (upd H s.heap.objs.size (.tup [x, y])) h2 s.heap.objs.size (.tup [x, y]) := ⟨(show 2 ≤ sizeLine by decide), [b1, b2], .cons r1 (.cons r2 .nil), _, hT2, rfl, _, rfl⟩
    have nc : ∀ c, c ∉ [n + 4, n + 2, n + 3, n, n + 1] → c ≠ n + 4 ∧ c ≠ n + 3 ∧ c ≠ n ∧ c ≠ n + 1 := fun c hc => by
      simp only [List.mem_cons, List.not_mem_nil, or_false, not_or] at hc
      exact ⟨hc.1, hc.2.2.1, hc.2.2.2.1, hc.2.2.2.2⟩
    have I1 := I.turnedNew (t' := tk) (ch := [n + 4, n + 2, n + 3, n, n + 1]) (fun c o hb e => at2 c o (nc c hb).1 (hk c o (nc c hb).1 (nc c hb).2.1 (nc c hb).2.2.1 (nc c hb).2.2.2 e)) hf (Nat.le_refl _) ok
    refine ⟨.ref s.heap.objs.size, _, I1, rfl, ⟨_, x, y, rfl, I.hok.fresh (Nat.le_refl _), rfl, fun l hl => by rw [ZS.at_inj I hl hp]; exact hx, fun l hl => by rw [ZS.at_inj I hl hq]; exact hy⟩, ⟨z2, at2 _ _ (adn n).1.1 (hk _ _ (adn n).1.1 (adn n).2.1 (adn n).2.2.1 (adn n).2.2.2 a2), ⟨b1, b2, at2 _ _ (adn n).1.2.1 t'⟩, ZS.it_to (fun o e => at2 _ o (adn n).1.2.2.1 e) (v1 _ _ i1), ZS.it_to (fun o e => at2 _ o (adn n).1.2.2.2 e) (v2 _ _ i2)⟩, fun c hcm => ?_⟩
    rw [upd_ne (Nat.ne_of_lt (show c < s.heap.objs.size from Nat.lt_of_le_of_lt (ad5 (by simpa only [List.mem_cons, List.not_mem_nil, or_false] using hcm)).2 nz))]
    exact (hf c hcm).1
  done := by
    intro X hP hw hK hc i pins s σ H E I hf st hg
    subst hP hw hK
    obtain ⟨a1, a2, ⟨x0, y0, a3⟩, a4, a5⟩ := st
    obtain ⟨xs, ys, hp, hq, e1, e2, e3⟩ := hg
    obtain ⟨St1, P1, D1, u1, v1, w1⟩ := ZS.draws I hc hp k1 (x := n) fun c m => Nat.ne_of_lt (s1 c m)
    obtain ⟨St2, P2, D2, u2, v2, w2⟩ := ZS.draws I hc hq k2 (x := n + 1) fun c m => Nat.ne_of_lt (Nat.lt_succ_of_lt (s2 c m))
    refine wpAny_pyNext_zipD2_end (sep_new s1 s2) D1 D2 a1 a2 a3 (u1 i a4) (u2 i a5) e1 e2 e3 fun h' tk hk => ⟨rfl, I.turnedL (t' := tk) (ch := [n + 4, n + 2, n + 3, n, n + 1]) (fun c o hb e => ?_) hf⟩
    simp only [List.mem_cons, List.not_mem_nil, or_false, not_or] at hb
    exact hk c o hb.1 hb.2.2.1 hb.2.2.2.1 hb.2.2.2.2 e
  self := fun A i s Q E st h => wpAny_pyIter_zip st.1 h
section
variable {X : Cx} {W : WX} {e a b : Expr} {pos p : Pos}
def iZipG (K : PySem.W.Frag) (ta : TA) : TI := fun σ H R => ta σ H fun vs H1 => ∃ p q xs ys v1 v2, vs = [v1, v2] ∧ ZS.val p v1 ∧ ZS.val q v2 ∧ p.at K H1 xs ∧ q.at K H1 ys ∧ R (ItzG K p q) H1
theorem pi_zipG {ta : TA} {tpos : Pos} {elts : List Expr} {kk : Nat} (hg : Gl X "zip") (hm : X.mg "zip" = none) (ha : PA X [a, b] ta)
    (hs : starEach [a, b] X.env = (false, eval a X.env) :: starEach [b] X.env := by rfl) (hpl : (backTo pos (starEach [b] X.env)).any (·.1) = false := by rfl) :
    PI X (.Tuple elts kk tpos) (.Call (.Name "zip" p) [a, b] [] pos) (iZipG X.K ta) := ⟨fun pins s σ H R I h => by
  refine Call_ (ld_blt I hg hm PyProof.Rows.boot_zip (PyProof.Rows.callWith_type1 (thn (ha.run pos pins s σ H _ I h) fun us t ⟨vs, H1, I1, r1, q1⟩ => ?_) hs hpl))
  obtain ⟨p, q, xs, ys, v1, v2, rfl, e1, e2, hp, hq, hR⟩ := q1
  obtain ⟨u1, ut, r0, ra, rr⟩ : ∃ u1 ut, us = u1 :: ut ∧ RelV v1 u1 ∧ Vals [v2] ut := by cases r1 with | cons r rr => exact ⟨_, _, rfl, r, rr⟩
  obtain ⟨u2, r3, r2⟩ : ∃ u2, ut = [u2] ∧ RelV v2 u2 := by cases rr with | cons r rr => cases rr; exact ⟨_, rfl, r⟩
  subst r3
  subst r0
  obtain ⟨o1, Hh1, k1, B1, c1, d1, f1⟩ := ZS.begins I1 hp e1 ra
  obtain ⟨o2, Hh2, k2, B2, c2, d2, f2⟩ := ZS.begins I1 hq e2 r2
  refine zip_begins2 B1 B2 c1 c2 fun h' hz hTI hTO g1 g2 hsz hk => wpAny_pyIter_zip hz ?_
  refine ⟨_, _, _, _, H1, rfl, I1.kept (t' := t.toks) hk, turn_zipG (k1 := k1) (k2 := k2) (n := t.heap.objs.size) f1 f2, ⟨hz, hTI, ⟨_, _, hTO⟩, d1 _ _ g1, d2 _ _ g2⟩, fun c m => ?_, hR⟩
  have hle : t.heap.objs.size ≤ c := (ad5 (by simpa only [List.mem_cons, List.not_mem_nil, or_false] using m)).1
  exact I1.fpOk hle (I1.hok.fresh hle)⟩
/-- what stands frozen -/
def ZS.atN (K : PySem.W.Frag) (N : Addr → Prop) (H : Hp) (p : ZS) (xs : List V) : Prop := match p with
  | .l a => LstAt K N H a xs
  | .t a => TupAt K N H a xs
  | .s z => xs = signsV z
theorem ZS.atN_at {K : PySem.W.Frag} {N : Addr → Prop} {H : Hp} {p : ZS} {xs : List V} (h : p.atN K N H xs) : p.at K H xs := by
  cases p with
  | l a => exact LstAt.sq h
  | t a => exact TupAt.sq h
  | s z => exact h
theorem ZS.atN_to {K : PySem.W.Frag} {N N' : Addr → Prop} {H H' : Hp} (e : Ext N H N' H') {p : ZS} {xs : List V} (h : p.atN K N H xs) : p.atN K N' H' xs := by
  cases p with
  | l a =>
    rcases h with ⟨n, h⟩ | h
    · exact .inl (e.rd n h)
    · exact .inr h
  | t a =>
    rcases h with ⟨n, h⟩ | h
    · exact .inl (e.rd n h)
    · exact .inr h
  | s z => exact h
theorem walkd_zipG {K : PySem.W.Frag} {N : Addr → Prop} {H : Hp} {p q : ZS} {ds es : List D} {vs ws : List V} (h1 : p.atN K N H vs) (r1 : Reps K N H ds vs) (h2 : q.atN K N H ws) (r2 : Reps K N H es ws) : WalkD K (ItzG K p q) (zipD ds es) N H := fun N' H' e al => by
  have h1' : ZS.atN K N' H' p vs := ZS.atN_to e h1
  have h2' : ZS.atN K N' H' q ws := ZS.atN_to e h2
  have r1' := Reps.mono e _ _ r1
  have r2' := Reps.mono e _ _ r2
  have l1 := r1'.length
  have l2 := r2'.length
  have lz : (zipD ds es).length = min ds.length es.length := by unfold zipD; rw [List.length_map, List.length_zip]
  refine ⟨fun i hi => ?_, ⟨vs, ws, (ZS.atN_at h1'), (ZS.atN_at h2'), by omega, by omega, by omega⟩, fun i x H2 d hd y => ?_⟩
  · rw [lz] at hi
    exact ⟨vs, ws, vs[i]'(by omega), ws[i]'(by omega), (ZS.atN_at h1'), (ZS.atN_at h2'), List.getElem?_eq_getElem _, List.getElem?_eq_getElem _⟩
  · obtain ⟨T, x1, x2, rfl, hT, rfl, y1, y2⟩ := y
    unfold zipD at hd
    rw [List.getElem?_map] at hd
    obtain ⟨pr, epr, rfl⟩ := Option.map_eq_some_iff.mp hd
    obtain ⟨e1, e2⟩ := zip_get epr
    obtain ⟨v1, f1, f2⟩ := r1'.get e1
    obtain ⟨v2, f3, f4⟩ := r2'.get e2
    have z1 := y1 vs (ZS.atN_at h1')
    have z2 := y2 ws (ZS.atN_at h2')
    rw [f1] at z1; cases z1
    rw [f3] at z2; cases z2
    exact ⟨same_new hT, Rep.tupNew al hT (same_new hT) upd_same (.cons f2 (.cons f4 .nil))⟩
theorem reps_signs {K : PySem.W.Frag} {N : Addr → Prop} {H : Hp} (z : Str) : Reps K N H (signsD z) (signsV z) := by
  unfold signsD signsV
  generalize z.cps.toList = l
  induction l with
  | nil => exact .nil
  | cons c l ih => exact .cons .s ih
theorem src_of {K : PySem.W.Frag} {N : Addr → Prop} {H : Hp} {d : D} {v : V} (r : Rep K N H d v) {kk : List D → Prop} (h : iterD d kk) : ∃ p ds xs, ZS.val p v ∧ p.atN K N H xs ∧ Reps K N H ds xs ∧ kk ds := by
  cases d with
  | lst ds =>
    obtain ⟨a, vs, rfl, h1, h2⟩ := lstAt_of r
    exact ⟨.l a, ds, vs, rfl, h1, h2, h⟩
  | rol ds =>
    obtain ⟨a, vs, rfl, h1, h2⟩ := rolAt_of r
    exact ⟨.l a, ds, vs, rfl, h1, h2, h⟩
  | tup ds =>
    obtain ⟨a, vs, rfl, h1, h2⟩ := tupAt_of r
    exact ⟨.t a, ds, vs, rfl, h1, h2, h⟩
  | str z =>
    obtain rfl := RepP.str (z := ⟨none, 0⟩) (.inl r)
    exact ⟨.s z, _, _, rfl, rfl, reps_signs z, h⟩
  | _ => exact h.elim
def zipG : List D → (List D → Prop) → Prop
  | [d1, d2], k => iterD d1 fun ds => iterD d2 fun es => k (zipD ds es)
  | _, _ => False
theorem e_zipG (d1 d2 : D) (k : List D → Prop) : zipG [d1, d2] k = iterD d1 fun ds => iterD d2 fun es => k (zipD ds es) := rfl
theorem di_zipG {tpos : Pos} {elts : List Expr} {kk : Nat} {t : DX (List D)} (hg : Gl X "zip") (hm : X.mg "zip" = none) (ha : DAs X W [a, b] t)
    (hs : starEach [a, b] X.env = (false, eval a X.env) :: starEach [b] X.env := by rfl) (hpl : (backTo pos (starEach [b] X.env)).any (·.1) = false := by rfl) :
    DI X W (.Tuple elts kk tpos) (.Call (.Name "zip" p) [a, b] [] pos) (dItA zipG t) := pi_to (pi_zipG hg hm ha hs hpl) fun σ H Q ⟨M, ρ, z, O, R, RX, w, h, x, k⟩ =>
  ⟨M, ρ, z, O, _, RX, w, h, x, fun ds ρ' z' vs H' O' hd g w' r => by
    unfold zipG at hd
    split at hd
    · obtain ⟨v, v2, rfl, r1, r2⟩ := reps2 r
      obtain ⟨p, ds, xs, a1, a2, a3, hd⟩ := src_of r1 hd
      obtain ⟨q, es, ys, b1, b2, b3, hd⟩ := src_of r2 hd
      exact ⟨p, q, xs, ys, _, _, rfl, a1, b1, (ZS.atN_at a2), (ZS.atN_at b2), k _ ρ' z' H' O' _ hd g w' (walkd_zipG a2 a3 b2 b3)⟩
    · exact hd.elim⟩
/-! ### x in a list of data of any depth -/
def inDeep (f : Bool → Bool) : Op2 := fun d e k => ∃ ds p ps, e = .lst ds ∧ dat d = some p ∧ dats ds = some ps ∧ SeqAt.shaped p = true ∧ SeqAt.shaped (.list ps) = true ∧ k (.bl (f (ps.any fun z => PyData.eqv z p)))
theorem od_inDeepG {op : CmpOp} {f : Bool → Bool} (h1 : OpR X (compareOp op) (fun x y H Q => ∃ d ds, Dp X.K H x d ∧ Dp X.K H y (.list ds) ∧ SeqAt.shaped d = true ∧ SeqAt.shaped (.list ds) = true ∧ Q (.bl (f (ds.any fun z => PyData.eqv z d))) H)) : OpR X (compareOp op) (OpU X.K (inDeep f)) := by
  rintro pins s σ H x y v u Q I rx ry ⟨N, z, d1, d2, R, al, r1, r2, ⟨ds, p, ps, rfl, e1, e2, e3, e4, h⟩, k⟩
  exact h1 pins s σ H _ _ v u Q I rx ry ⟨p, ps, datP_ok r1 e1, datP_ok (d := .lst ds) r2 (by rw [dat, e2]; rfl), e3, e4, k _ _ H h same0 .b⟩
theorem od_inDeep (hu : X.A.units + 65 < cLine) : OpR X (compareOp .In) (OpU X.K (inDeep id)) := od_inDeepG (op_inD hu)
theorem od_notInDeep (hu : X.A.units + 65 < cLine) : OpR X (compareOp .NotIn) (OpU X.K (inDeep not)) := od_inDeepG (op_notInD hu)
end
end Lay

set_option Elab.async false
set_option linter.all false
set_option maxRecDepth 100000
set_option maxHeartbeats 2000000
namespace Lay
open PySem PySem.Spec PyProof.Rows L2 SeqAt
open AutoSeq1 (wpAny_loadPart')
open MeetsSeq MeetsSeq2 MeetsSeq3 SeqRoads2
section
variable {prog : Program} {w : World} {A : Around} {E : Value → Shared → Prop} {s : Shared}
theorem tup_obj {h : Heap} {l : Addr} {xs : Array Value} (t : h.IsTuple l xs) : ∃ n dd sl, h.get? l = some { cls := .type "tuple", dict := dd, data := .seq xs n, slots := sl } := by
  obtain ⟨o, e, c, n, d⟩ := t
  cases o
  cases c; cases d
  exact ⟨n, _, _, e⟩
/-- == of the two tells a, whatever the state is, as long as G holds -/
def Answers (prog : Program) (w : World) (A : Around) (E : Value → Shared → Prop) (G : Shared → Prop) (a : Bool) (p : Value × Value) : Prop :=
  ∀ s, G s → ∀ Q : Bool → Shared → Prop, (∀ s', G s' → Q a s') → wpAny (model prog w) A (eqBool p.1 p.2) Q E s
theorem thenDone {B : Around} {t : Sem PySem.Fin} {Q : Value → Shared → Prop} (h : wpAny (model prog w) B t (fun f s' => ∃ v, f = .done (.ret v) ∧ (v ≠ .notImplemented ∧ Q v s')) E s) :
    wpAny (model prog w) B t (fun f s' => match f with | .done f => wants (fun v s' => v ≠ .notImplemented ∧ Q v s') E (.ok f) s' | .again c' => c'.quiet = true ∧ codeAny (model prog w) A c' (wants (fun v s' => v ≠ .notImplemented ∧ Q v s') E) s') (fun e s' => wants (fun v s' => v ≠ .notImplemented ∧ Q v s') E (.error e) s') s :=
  wpAny_mono h (fun f s' ⟨v, e, q⟩ => by rw [e]; exact q) fun _ _ x => x
/-- the answers es of the pairs, one by one: what the tuples' Eq tells -/
theorem tup_eqG {l b : Addr} {xs ys : Array Value} {es : List Bool} {G : Shared → Prop} {Q : Value → Shared → Prop} (hl : s.heap.IsTuple l xs) (hb : s.heap.IsTuple b ys) (room : A.units < cLine) (h0 : G s)
    (he : Paired (Answers prog w A.in1 E G) es (xs.toList.zip ys.toList)) (k : ∀ s', G s' → Q (.bool (es.all id && xs.size == ys.size)) s') : wpAny (model prog w) A (richCompare .Eq (.ref l) (.ref b)) Q E s := by
  obtain ⟨n1, d1, c1, o1⟩ := tup_obj hl
  obtain ⟨n2, d2, c2, o2⟩ := tup_obj hb
  have t1 : s.TypeIs (.ref l) "tuple" := ⟨_, o1, rfl⟩
  have t2 : s.TypeIs (.ref b) "tuple" := ⟨_, o2, rfl⟩
  have wide := AutoSeq1.sub_tuple_tuple
  have told : ∀ es' : List Bool, (∀ s', G s' → Q (.bool (es'.all id && xs.size == ys.size)) s') → ∀ s', G s' → Value.bool (es'.all id && xs.size == ys.size) ≠ .notImplemented ∧ Q (.bool (es'.all id && xs.size == ys.size)) s' := fun es' q s' g => ⟨Value.noConfusion, q s' g⟩
  refine wpAny_richCompare_same_room (op := .Eq) t1 t2 F.slot_tuple_eq (wpAny_call (codeAny_call_builtin F.slot_tuple_eq.plain F.entry_tuple_eq (F.slot_tuple_eq.check _ _ _ _ _ _ _ _ t1 (F.args_tuple_eq_2 _ _) ?body))) room
  refine thenDone ?_
  cases s
  wp_walk using wpAny_loadPart' o1, wpAny_loadPart' o2, wpAny_forIn_list _ (fun rest st s' => G s' ∧ st.1 = none ∧ ∃ es', Paired (Answers prog w A.in1 E G) es' rest ∧ ∀ s', G s' → Q (.bool (es'.all id && xs.size == ys.size)) s') _
  case h => exact ⟨h0, rfl, es, he, k⟩
  case turn =>
    rintro ⟨x, y⟩ rest st s' ⟨g, _, es', hp, q⟩
    match es', hp with
    | a :: as, .cons ha hs =>
      refine wpAny_bind (ha s' g _ fun s2 g2 => ?_)
      cases a
      · wp_walk
        exact ⟨_, rfl, by simpa using told _ q s2 g2⟩
      · wp_walk
        exact ⟨g2, rfl, as, hs, by simpa using q⟩
  case fin =>
    rintro ⟨r1, r2⟩ s' ⟨g, e, es', hp, q⟩
    cases hp
    cases e
    wp_walk
    exact ⟨_, rfl, by simpa [Builtin.Tuple.tupleCompareSizes] using told _ q s' g⟩
/-- the answers es of the pairs, one by one: what the tuples' NotEq tells -/
theorem tup_neG {l b : Addr} {xs ys : Array Value} {es : List Bool} {G : Shared → Prop} {Q : Value → Shared → Prop} (hl : s.heap.IsTuple l xs) (hb : s.heap.IsTuple b ys) (room : A.units < cLine) (h0 : G s)
    (he : Paired (Answers prog w A.in1 E G) es (xs.toList.zip ys.toList)) (k : ∀ s', G s' → Q (.bool (!(es.all id && xs.size == ys.size))) s') : wpAny (model prog w) A (richCompare .NotEq (.ref l) (.ref b)) Q E s := by
  obtain ⟨n1, d1, c1, o1⟩ := tup_obj hl
  obtain ⟨n2, d2, c2, o2⟩ := tup_obj hb
  have t1 : s.TypeIs (.ref l) "tuple" := ⟨_, o1, rfl⟩
  have t2 : s.TypeIs (.ref b) "tuple" := ⟨_, o2, rfl⟩
  have wide := AutoSeq1.sub_tuple_tuple
  have told : ∀ es' : List Bool, (∀ s', G s' → Q (.bool (!(es'.all id && xs.size == ys.size))) s') → ∀ s', G s' → Value.bool (!(es'.all id && xs.size == ys.size)) ≠ .notImplemented ∧ Q (.bool (!(es'.all id && xs.size == ys.size))) s' := fun es' q s' g => ⟨Value.noConfusion, q s' g⟩
  refine wpAny_richCompare_same_room (op := .NotEq) t1 t2 F.slot_tuple_ne (wpAny_call (codeAny_call_builtin F.slot_tuple_ne.plain F.entry_tuple_ne (F.slot_tuple_ne.check _ _ _ _ _ _ _ _ t1 (F.args_tuple_ne_2 _ _) ?body))) room
  refine thenDone ?_
  cases s
  wp_walk using wpAny_loadPart' o1, wpAny_loadPart' o2, wpAny_forIn_list _ (fun rest st s' => G s' ∧ st.1 = none ∧ ∃ es', Paired (Answers prog w A.in1 E G) es' rest ∧ ∀ s', G s' → Q (.bool (!(es'.all id && xs.size == ys.size))) s') _
  case h => exact ⟨h0, rfl, es, he, k⟩
  case turn =>
    rintro ⟨x, y⟩ rest st s' ⟨g, _, es', hp, q⟩
    match es', hp with
    | a :: as, .cons ha hs =>
      refine wpAny_bind (ha s' g _ fun s2 g2 => ?_)
      cases a
      · wp_walk
        exact ⟨_, rfl, by simpa using told _ q s2 g2⟩
      · wp_walk
        exact ⟨g2, rfl, as, hs, by simpa using q⟩
  case fin =>
    rintro ⟨r1, r2⟩ s' ⟨g, e, es', hp, q⟩
    cases hp
    cases e
    wp_walk
    exact ⟨_, rfl, by simpa [Builtin.Tuple.tupleCompareSizes, bne] using told _ q s' g⟩
end
/-! ### == item by item, own == within -/
inductive HEq' (K : PySem.W.Frag) (C : Addr) (sp : Sp) (G : Hp → Prop) : Nat → V → V → Bool → Prop
  | own {n : Nat} {a b : Addr} {c : Bool} (h : ∀ H, G H → (∃ dx fs, H a = some (.ins C dx fs)) ∧ (∃ dx fs, H b = some (.ins C dx fs)) ∧ sp [.ref a, .ref b] H (fun v H' => v = .bl c ∧ G H') E0) (h2 : a = b → c = true) : HEq' K C sp G n (.ref a) (.ref b) c
  | str {n : Nat} {x y : Str} : HEq' K C sp G n (.str x) (.str y) (x == y)
  | int {n : Nat} {x y : Int} : HEq' K C sp G n (.int x) (.int y) (x == y)
  | tup {n : Nat} {t1 t2 : Addr} {vs ws : List V} {e : Nat → Bool} (h : ∀ H, G H → SqT K H t1 vs ∧ SqT K H t2 ws) (he : ∀ j v w, vs[j]? = some v → ws[j]? = some w → HEq' K C sp G n v w (e j))
      (h2 : t1 = t2 → ((List.range (min vs.length ws.length)).all e && vs.length == ws.length) = true) : HEq' K C sp G (n + 1) (.ref t1) (.ref t2) ((List.range (min vs.length ws.length)).all e && vs.length == ws.length)
theorem zip_two {its jts : List Value} {e : Nat → Bool} {i : Nat} {a : Bool} {p : Value × Value} (ep : (its.toArray.toList.zip jts.toArray.toList)[i]? = some p) (ea : ((List.range (min its.length jts.length)).map e)[i]? = some a) : e i = a ∧ its[i]? = some p.1 ∧ jts[i]? = some p.2 := by
  have ep : (its.zip jts)[i]? = some p := ep
  have hi := lt_of_get ea
  rw [List.length_map, List.length_range] at hi
  rw [List.getElem?_map, List.getElem?_range hi] at ea
  obtain ⟨e1, e2⟩ := zip_get ep
  exact ⟨Option.some.inj ea, e1, e2⟩
theorem paired_at {α β : Type} {R : α → β → Prop} : ∀ {xs : List α} {ys : List β}, xs.length = ys.length → (∀ (i : Nat) (x : α) (y : β), xs[i]? = some x → ys[i]? = some y → R x y) → Paired R xs ys
  | [], [], _, _ => .nil
  | x :: xs, y :: ys, h, k => .cons (k 0 x y rfl rfl) (paired_at (Nat.succ.inj h) fun i a b e1 e2 => k (i + 1) a b e1 e2)
section
variable {X : Cx} {j k : Nat} {C : Addr} {D' : Addr → FuncData → Prop} {ps : List Str} {sp : Sp} {pins : List (Addr × Obj)} {σ : L2.St}
theorem Method.item (M : Method X.prog X.w X.K X.mg X.base CX0 k C "__eq__" D' ps sp) {G : Hp → Prop} : ∀ {n : Nat} {v w : V} {b : Bool}, HEq' X.K C sp G n v w b → ∀ {A : Around}, Room (k + n) A → A.guards = some [] →
    (∀ H s, Inv X pins σ H s → Env0 X.prog X.w X.K X.mg X.base A X.stack s H) → ∀ {H : Hp} {s : Shared} {u1 u2 : Value} {Q : Bool → Shared → Prop} {E : Value → Shared → Prop}, Inv X pins σ H s → G H → RelV v u1 → RelV w u2 →
    (∀ H' s', Inv X pins σ H' s' → G H' → Q b s') → wpAny (model X.prog X.w) A (eqBool u1 u2) Q E s := by
  intro n v w b h
  induction h with
  | @own n a b c h h2 =>
    intro A hr hg hA H s u1 u2 Q E I hG r1 r2 hQ
    obtain ⟨f, fd, c0, hm, F, bb, Gf⟩ := M.ex
    obtain rfl : u1 = Value.ref a := r1
    obtain rfl : u2 = Value.ref b := r2
    obtain ⟨⟨dx, fs, ea⟩, ⟨dy, gs, eb⟩, z⟩ := h H hG
    unfold eqBool
    refine wpAny_holding ?_
    refine wpAny_ite_split (fun hab => ?_) (fun _ => ?_)
    · have hab := eq_of_beq hab
      injection hab with hab
      have := hQ H s I hG
      rw [h2 hab] at this
      exact wpAny_bind (wpAny_rule (wpAny_pure this))
    · obtain ⟨mA, O, _⟩ := ins_get I.hok ea
      obtain ⟨od, J, _⟩ := O.look
      obtain ⟨mA', O', _⟩ := ins_get I.hok eb
      obtain ⟨od', J', _⟩ := O'.look
      obtain ⟨m, fr⟩ := I.fr
      refine wpAny_bind (PySem.W.cmp_K (op := .Eq) (tb := .ref C) hr.units0 fr I.ok.mod.kin J J'.type notFirst_self hm.at_ hm.fn ?_)
      refine wpAny_mono (gcallA (vs := [V.ref a, V.ref b]) Gf (hr.mono (Nat.le_add_right _ _)) hg (hA _ _ I) bb I (.cons rfl (.cons rfl .nil)) z) ?_ (fun _ _ e => e)
      rintro w s' ⟨v, H', I', rv, rfl, hG'⟩
      obtain rfl : w = Value.bool c := rv
      exact wpAny_truthy_bool (hQ H' s' I' hG')
  | str =>
    intro A hr hg hA H s u1 u2 Q E I hG r1 r2 hQ
    obtain ⟨t1, rfl⟩ := r1
    obtain ⟨t2, rfl⟩ := r2
    exact eqGives_str _ _ _ _ _ _ _ _ _ _ (hQ H s I hG)
  | int =>
    intro A hr hg hA H s u1 u2 Q E I hG r1 r2 hQ
    obtain ⟨t1, rfl⟩ := r1
    obtain ⟨t2, rfl⟩ := r2
    exact MeetsSeq.EqGives.int _ _ _ _ _ _ _ _ _ _ (hQ H s I hG)
  | @tup n t1 t2 vs ws e h he h2 ih =>
    intro A hr hg hA H s u1 u2 Q E I hG r1 r2 hQ
    obtain rfl : u1 = Value.ref t1 := r1
    obtain rfl : u2 = Value.ref t2 := r2
    obtain ⟨q1, q2⟩ := h H hG
    obtain ⟨its, rs, hl, _⟩ := I.tuple q1
    obtain ⟨jts, ss, hb, _⟩ := I.tuple q2
    have l1 := rs.length
    have l2 := ss.length
    unfold eqBool
    refine wpAny_holding ?_
    refine wpAny_ite_split (fun hab => ?_) (fun _ => ?_)
    · have hab := eq_of_beq hab
      injection hab with hab
      have := hQ H s I hG
      rw [h2 hab] at this
      exact wpAny_bind (wpAny_rule (wpAny_pure this))
    · refine wpAny_bind (tup_eqG (es := (List.range (min its.length jts.length)).map e) (G := fun s => ∃ H, Inv X pins σ H s ∧ G H) hl hb hr.units0 ⟨H, I, hG⟩ (paired_at (by simp) fun i a p ea ep => ?_) fun s' ⟨H', I', hG'⟩ => ?_)
      · obtain ⟨hia, e1, e2⟩ := zip_two ep ea
        subst hia
        obtain ⟨u, f1, r1⟩ := rs.get (i := i) (x := vs[i]'(by have := lt_of_get e1; omega)) (List.getElem?_eq_getElem _)
        obtain ⟨u', f2, r2⟩ := ss.get (i := i) (x := ws[i]'(by have := lt_of_get e2; omega)) (List.getElem?_eq_getElem _)
        rw [e1] at f1
        rw [e2] at f2
        cases f1; cases f2
        exact fun s ⟨H', I', hG'⟩ Q hq => ih i _ _ (List.getElem?_eq_getElem _) (List.getElem?_eq_getElem _) (show Room (k + n + 1) A from hr).in1 hg (fun H s I => (hA H s I).in1) I' hG' r1 r2 fun H2 s2 I2 G2 => hq s2 ⟨H2, I2, G2⟩
      · refine wpAny_truthy_bool ?_
        have := hQ H' s' I' hG'
        rw [l1, l2] at this
        simpa [List.all_map] using this
end
/-! ### the same for trees -/
mutual
def firm : D → Prop
  | .int _ | .str _ | .non | .bl _ | .ty _ => True
  | .tup ds => firms ds
  | .ins _ _ ds => firms ds
  | _ => False
def firms : List D → Prop
  | [] => True
  | d :: ds => firm d ∧ firms ds
end
theorem firms_map {α : Type} {f : α → D} : ∀ {l : List α}, (∀ a ∈ l, firm (f a)) → firms (l.map f)
  | [], _ => by rw [List.map_nil, firms]; trivial
  | a :: l, h => by rw [List.map_cons, firms]; exact ⟨h a List.mem_cons_self, firms_map fun b m => h b (List.mem_cons_of_mem _ m)⟩
theorem firms.get : ∀ {l : List D}, firms l → ∀ d ∈ l, firm d
  | d :: ds, h, e, m => by
    rw [firms] at h
    rcases List.mem_cons.mp m with rfl | m
    · exact h.1
    · exact h.2.get e m
structure TupInj (K : PySem.W.Frag) (H : Hp) : Prop where
  inj : ∀ t vs ws, SqT K H t vs → SqT K H t ws → vs = ws
  no : ∀ t vs C dx fs, SqT K H t vs → H t = some (.ins C dx fs) → False
theorem Inv.tupInj {X : Cx} {pins : List (Addr × Obj)} {σ : L2.St} {H : Hp} {s : Shared} (I : Inv X pins σ H s) : TupInj X.K H := by
  refine ⟨fun t vs ws h1 h2 => I.tuple_inj h1 h2, fun t vs C dx fs h1 h2 => ?_⟩
  obtain ⟨its, r, ⟨o, e, c, n, d⟩, _⟩ := I.tuple h1
  obtain ⟨mA, O, q⟩ := ins_get I.hok h2
  obtain ⟨od, J, _⟩ := O.look
  have a1 := J.at_
  have a2 := J.cls
  rw [e] at a1
  cases a1
  rw [c] at a2
  cases a2
theorem Reps.len {K : PySem.W.Frag} {N : Addr → Prop} {H : Hp} : ∀ {ds : List D} {vs : List V}, Reps K N H ds vs → vs.length = ds.length
  | [], vs, h => by rw [Reps] at h; rw [h]; rfl
  | d :: ds, vs, h => by
    rw [Reps] at h
    obtain ⟨v, r, rfl, _, h⟩ := h
    rw [List.length_cons, List.length_cons, Reps.len h]
theorem zip_inj {α β : Type} : ∀ {a c : List α} {b d : List β}, a.length = b.length → c.length = d.length → a.zip b = c.zip d → a = c ∧ b = d
  | [], [], [], [], _, _, _ => ⟨rfl, rfl⟩
  | [], _ :: _, [], _ :: _, _, _, h => by cases h
  | _ :: _, [], _ :: _, [], _, _, h => by cases h
  | x :: a, y :: c, u :: b, w :: d, h1, h2, h => by
    rw [List.zip_cons_cons, List.zip_cons_cons, List.cons.injEq, Prod.mk.injEq] at h
    obtain ⟨e1, e2⟩ := zip_inj (a := a) (c := c) (b := b) (d := d) (Nat.succ.inj h1) (Nat.succ.inj h2) h.2
    exact ⟨by rw [h.1.1, e1], by rw [h.1.2, e2]⟩
section
variable {K : PySem.W.Frag} {N : Addr → Prop} {H : Hp}
mutual
theorem Rep.inj (T : TupInj K H) : ∀ (d d' : D) (v : V), firm d → firm d' → Rep K N H d v → Rep K N H d' v → d = d'
  | .int i, d', v, f, f', r, r' => by cases d' <;> simp only [Rep] at r r' <;> first | (simp only [firm] at f'; done) | (subst r; cases r'; rfl) | (subst r; cases r'; done) | (subst r; obtain ⟨_, _, q, _⟩ := r'; cases q; done) | (subst r; obtain ⟨_, _, _, q, _⟩ := r'; cases q; done)
  | .str i, d', v, f, f', r, r' => by cases d' <;> simp only [Rep] at r r' <;> first | (simp only [firm] at f'; done) | (subst r; cases r'; rfl) | (subst r; cases r'; done) | (subst r; obtain ⟨_, _, q, _⟩ := r'; cases q; done) | (subst r; obtain ⟨_, _, _, q, _⟩ := r'; cases q; done)
  | .bl i, d', v, f, f', r, r' => by cases d' <;> simp only [Rep] at r r' <;> first | (simp only [firm] at f'; done) | (subst r; cases r'; rfl) | (subst r; cases r'; done) | (subst r; obtain ⟨_, _, q, _⟩ := r'; cases q; done) | (subst r; obtain ⟨_, _, _, q, _⟩ := r'; cases q; done)
  | .ty i, d', v, f, f', r, r' => by cases d' <;> simp only [Rep] at r r' <;> first | (simp only [firm] at f'; done) | (subst r; cases r'; rfl) | (subst r; cases r'; done) | (subst r; obtain ⟨_, _, q, _⟩ := r'; cases q; done) | (subst r; obtain ⟨_, _, _, q, _⟩ := r'; cases q; done)
  | .non, d', v, f, f', r, r' => by cases d' <;> simp only [Rep] at r r' <;> first | (simp only [firm] at f'; done) | (subst r; cases r'; rfl) | (subst r; cases r'; done) | (subst r; obtain ⟨_, _, q, _⟩ := r'; cases q; done) | (subst r; obtain ⟨_, _, _, q, _⟩ := r'; cases q; done)
  | .tup ds, d', v, f, f', r, r' => by
    simp only [Rep] at r
    obtain ⟨a, vs, rfl, h, q⟩ := r
    cases d' <;> simp only [Rep] at r' <;> first | (simp only [firm] at f'; done) | (cases r'; done) | skip
    · obtain ⟨a', vs', e, h', q'⟩ := r'
      cases e
      have := T.inj a vs vs' h.sq h'.sq
      subst this
      rw [firm] at f f'
      rw [Reps.inj T _ _ vs f f' q q']
    · obtain ⟨a', dx, vs', e, _, h', _⟩ := r'
      cases e
      exact (T.no _ _ _ _ _ h.sq h').elim
  | .ins C ns ds, d', v, f, f', r, r' => by
    simp only [Rep] at r
    obtain ⟨a, dx, vs, rfl, hn, h, hl, q⟩ := r
    cases d' <;> simp only [Rep] at r' <;> first | (simp only [firm] at f'; done) | (cases r'; done) | skip
    · obtain ⟨a', vs', e, h', _⟩ := r'
      cases e
      exact (T.no _ _ _ _ _ h'.sq h).elim
    · obtain ⟨a', dx', vs', e, hn', h', hl', q'⟩ := r'
      cases e
      rw [h] at h'
      have h3 := Option.some.inj h'
      simp only [HO.ins.injEq] at h3
      obtain ⟨rfl, rfl, e⟩ := h3
      obtain ⟨rfl, rfl⟩ := zip_inj (by rw [hl, Reps.len q]) (by rw [hl', Reps.len q']) e
      rw [firm] at f f'
      rw [Reps.inj T _ _ vs f f' q q']
  | .adr _, _, _, f, _, _, _ => by simp only [firm] at f
  | .lst _, _, _, f, _, _, _ => by simp only [firm] at f
  | .rol _, _, _, f, _, _, _ => by simp only [firm] at f
  | .exn _ _ _, _, _, f, _, _, _ => by simp only [firm] at f
  | .dic _ _, _, _, f, _, _, _ => by simp only [firm] at f
theorem Reps.inj (T : TupInj K H) : ∀ (ds ds' : List D) (vs : List V), firms ds → firms ds' → Reps K N H ds vs → Reps K N H ds' vs → ds = ds'
  | [], [], _, _, _, _, _ => rfl
  | [], d' :: ds', vs, _, _, r, r' => by simp only [Reps] at r r'; subst r; obtain ⟨_, _, q, _⟩ := r'; cases q
  | d :: ds, [], vs, _, _, r, r' => by simp only [Reps] at r r'; subst r'; obtain ⟨_, _, q, _⟩ := r; cases q
  | d :: ds, d' :: ds', vs, f, f', r, r' => by
    simp only [Reps] at r r'
    rw [firms] at f f'
    obtain ⟨v, q, rfl, r1, r2⟩ := r
    obtain ⟨v', q', e, r1', r2'⟩ := r'
    cases e
    rw [Rep.inj T d d' v f.1 f'.1 r1 r1', Reps.inj T ds ds' q f.2 f'.2 r2 r2']
end
end
/-- d1 == d2, item by item, as the class's own == tells; what it tells -/
inductive EqI (C : Addr) (sp : PSp) (z : Z) : Nat → D → D → Bool → Prop
  | own {n : Nat} {d1 d2 : D} {b : Bool} (h1 : ∃ ns ds, d1 = .ins C ns ds) (h2 : ∃ ns ds, d2 = .ins C ns ds) (f1 : firm d1) (f2 : firm d2) (h : sp [d1, d2] z (fun r z' => r = .bl b ∧ z' = z) noP) (hr : d1 = d2 → b = true) : EqI C sp z n d1 d2 b
  | str {n : Nat} {x y : Str} : EqI C sp z n (.str x) (.str y) (x == y)
  | int {n : Nat} {x y : Int} : EqI C sp z n (.int x) (.int y) (x == y)
  | tup {n : Nat} {xs ys : List D} {e : Nat → Bool} (f1 : firms xs) (f2 : firms ys) (h : ∀ j x y, xs[j]? = some x → ys[j]? = some y → EqI C sp z n x y (e j)) : EqI C sp z (n + 1) (.tup xs) (.tup ys) ((List.range (min xs.length ys.length)).all e && xs.length == ys.length)
theorem EqI.firms {C : Addr} {sp : PSp} {z : Z} {n : Nat} {d1 d2 : D} {b : Bool} (h : EqI C sp z n d1 d2 b) : firm d1 ∧ firm d2 := by
  cases h with
  | own _ _ f1 f2 _ _ => exact ⟨f1, f2⟩
  | str => rw [firm]; trivial
  | int => rw [firm, firm]; exact ⟨trivial, trivial⟩
  | tup f1 f2 _ => rw [firm, firm]; exact ⟨f1, f2⟩
theorem EqI.refl {C : Addr} {sp : PSp} {z : Z} {n : Nat} {d1 d2 : D} {b : Bool} (h : EqI C sp z n d1 d2 b) : d1 = d2 → b = true := by
  induction h with
  | own _ _ _ _ _ hr => exact hr
  | str => intro e; cases e; simp
  | int => intro e; cases e; simp
  | @tup n xs ys e f1 f2 h ih =>
    intro q
    cases q
    rw [Nat.min_self, Bool.and_eq_true, List.all_eq_true]
    refine ⟨fun j m => ?_, by simp⟩
    have hj : j < xs.length := List.mem_range.mp m
    exact ih j _ _ (List.getElem?_eq_getElem hj) (List.getElem?_eq_getElem hj) rfl
section
variable {X : Cx} {j k : Nat} {C : Addr} {D' : Addr → FuncData → Prop} {ps : List Str} {sp : PSp} {W : WX} {a b : Expr} {pos : Pos}
theorem TupAt.mono {K : PySem.W.Frag} {N N' : Addr → Prop} {H H' : Hp} (g : Ext N H N' H') {a : Addr} {vs : List V} (h : TupAt K N H a vs) : TupAt K N' H' a vs := by
  rcases h with ⟨n, h⟩ | h
  · refine .inl ⟨fun q => ?_, ?_⟩
    · rcases g.nw a q with q | q
      · exact n q
      · rcases h with h | ⟨o, h⟩ <;> rw [q] at h <;> cases h
    · rcases h with h | ⟨o, h⟩
      · exact .inl (g.st a _ h n)
      · exact .inr ⟨o, g.st a _ h n⟩
  · exact .inr h
theorem EqI.toH {K : PySem.W.Frag} {M : Addr → Prop} {H : Hp} {σ : L2.St} {ρ : List Sl} {z : Z} {O : Nat → Option Addr} (w : Wd K M H σ ρ z O) (T : TupInj K H) {n : Nat} {d1 d2 : D} {b : Bool} (h : EqI C sp z n d1 d2 b) :
    ∀ {v1 v2 : V}, Rep K (NN M z O) H d1 v1 → Rep K (NN M z O) H d2 v2 → HEq' K C (lift K sp) (fun H' => GoE M H z O H' z O ∧ Wd K M H' σ ρ z O) n v1 v2 b := by
  induction h with
  | @own n d1 d2 b h1 h2 f1 f2 h hr =>
    intro v1 v2 r1 r2
    obtain ⟨ns1, ds1, e1⟩ := h1
    obtain ⟨ns2, ds2, e2⟩ := h2
    have r1' := r1
    have r2' := r2
    rw [e1] at r1'
    rw [e2] at r2'
    obtain ⟨a, dx, vs, rfl, q1, q2, q3⟩ := RepP.ins (z := z) (.inl r1')
    obtain ⟨a2, dx2, vs2, rfl, q1', q2', q3'⟩ := RepP.ins (z := z) (.inl r2')
    refine .own (fun H' ⟨g, w'⟩ => ?_) fun e => hr (Rep.inj T _ _ _ f1 f2 r1 (by rw [e]; exact r2))
    have s1 := Rep.mono g.ext _ _ r1
    have s2 := Rep.mono g.ext _ _ r2
    have s1' := s1
    have s2' := s2
    rw [e1] at s1'
    rw [e2] at s2'
    obtain ⟨_, _, _, u1, p1, _⟩ := RepP.ins (z := z) (.inl s1')
    obtain ⟨_, _, _, u2, p2, _⟩ := RepP.ins (z := z) (.inl s2')
    cases u1; cases u2
    refine ⟨⟨_, _, p1⟩, ⟨_, _, p2⟩, lift_at0 (R := fun d ρ z' => d = .bl b ∧ z' = z) w' (.cons s1 (.cons s2 .nil)) h fun d z' v H2 hd g2 w2 r => ?_⟩
    obtain ⟨rfl, rfl⟩ := hd
    obtain rfl := RepP.bl (z := z') (.inl r)
    exact ⟨rfl, g.trans g2, w2⟩
  | str => intro v1 v2 r1 r2; obtain rfl := RepP.str (z := z) (.inl r1); obtain rfl := RepP.str (z := z) (.inl r2); exact .str
  | int => intro v1 v2 r1 r2; obtain rfl := RepP.int (z := z) (.inl r1); obtain rfl := RepP.int (z := z) (.inl r2); exact .int
  | @tup n xs ys e f1 f2 h ih =>
    intro v1 v2 r1 r2
    have hi := EqI.refl (.tup f1 f2 h)
    have r1' := r1
    have r2' := r2
    rw [Rep] at r1' r2'
    obtain ⟨t1, vs, rfl, p1, q1⟩ := r1'
    obtain ⟨t2, ws, rfl, p2, q2⟩ := r2'
    rw [← Reps.len q1, ← Reps.len q2] at hi ⊢
    refine .tup (fun H' ⟨g, w'⟩ => ⟨(p1.mono g.ext).sq, (p2.mono g.ext).sq⟩) (fun j v w hv hw => ?_) fun e => hi (Rep.inj T _ _ _ (by rw [firm]; exact f1) (by rw [firm]; exact f2) r1 (by rw [e]; exact r2))
    have hj1 := lt_of_get hv
    have hj2 := lt_of_get hw
    rw [Reps.len q1] at hj1
    rw [Reps.len q2] at hj2
    obtain ⟨v', ev, rv⟩ := q1.get (List.getElem?_eq_getElem hj1)
    obtain ⟨w', ew, rw'⟩ := q2.get (List.getElem?_eq_getElem hj2)
    rw [hv] at ev; cases ev
    rw [hw] at ew; cases ew
    exact ih j _ _ (List.getElem?_eq_getElem hj1) (List.getElem?_eq_getElem hj2) rv rw'
/-- t == t', t != t' of tuples with own instances within -/
def dTupO (n : Nat) (C : Addr) (sp : PSp) (f : Bool → Bool) (ta tb : DX D) : DX D := fun ρ z R RX => ta ρ z (fun d1 ρ1 z1 => tb ρ1 z1 (fun d2 ρ2 z2 => ∃ xs ys b, d1 = .tup xs ∧ d2 = .tup ys ∧ EqI C sp z2 n d1 d2 b ∧ R (.bl (f b)) ρ2 z2) RX) RX
theorem ap_dTupO (n : Nat) (C : Addr) (sp : PSp) (f : Bool → Bool) (ta tb : DX D) (s0 : Sl) (ρ0 : List Sl) (z : Z) (R : D → List Sl → Z → Prop) (RX : KX) : dTupO n C sp f ta tb (s0 :: ρ0) z R RX = (ta (s0 :: ρ0) z (fun d1 ρ1 z1 => tb ρ1 z1 (fun d2 ρ2 z2 => ∃ xs ys b, d1 = .tup xs ∧ d2 = .tup ys ∧ EqI C sp z2 n d1 d2 b ∧ R (.bl (f b)) ρ2 z2) RX) RX) := rfl
def rTupO (K : PySem.W.Frag) (C : Addr) (sp : Sp) (n : Nat) (f : Bool → Bool) : R2 := fun x y H Q => ∃ G : Hp → Prop, ∃ b : Bool, ∃ t1 t2 vs ws, x = .ref t1 ∧ y = .ref t2 ∧ SqT K H t1 vs ∧ SqT K H t2 ws ∧ G H ∧ (TupInj K H → HEq' K C sp G n x y b) ∧ ∀ H', G H' → Q (.bl (f b)) H'
theorem UG.tupO {K : PySem.W.Frag} {n : Nat} {f : Bool → Bool} {ta tb : DX D} {σ : L2.St} {H : Hp} {Q : VK} (h : UG K W (relE K) (dTupO n C sp f ta tb) σ H Q) :
    tOp (rTupO K C (lift K sp) n f) (UG K W (relE K) ta) (UG K W (relE K) tb) σ H Q := by
  obtain ⟨M, ρ, z, O, R, RX, w, h, x, k⟩ := h
  refine ⟨M, ρ, z, O, _, RX, w, h, x, fun d1 ρ1 z1 v1 H1 O1 h1 g1 w1 r1 => ?_⟩
  refine ⟨M, ρ1, z1, O1, _, RX, w1, h1, x.after g1.toGo, fun d2 ρ2 z2 v2 H2 O2 ⟨xs, ys, b, e1, e2, he, hR⟩ g2 w2 r2 => ?_⟩
  have r1' := Rep.mono g2.ext _ _ r1
  have q1 := r1'
  have q2 := r2
  rw [e1] at q1
  rw [e2] at q2
  obtain ⟨t1, vs, rfl, p1, _⟩ := RepP.tup (z := z2) (.inl q1)
  obtain ⟨t2, ws, rfl, p2, _⟩ := RepP.tup (z := z2) (.inl q2)
  exact ⟨fun H' => GoE M H2 z2 O2 H' z2 O2 ∧ Wd K M H' σ ρ2 z2 O2, b, t1, t2, vs, ws, rfl, rfl, p1, p2, ⟨GoE.refl, w2⟩, fun T => he.toH w2 T r1' r2, fun H' ⟨g, w'⟩ => k _ ρ2 z2 _ H' O2 hR (g1.trans (g2.trans g)) w' .b⟩
theorem Method.tupEq {sp : Sp} {n : Nat} (M : Method X.prog X.w X.K X.mg X.base CX0 k C "__eq__" D' ps sp) (hr : Room j X.A) (hg : X.A.guards = some []) (hj : k + n + 1 ≤ j) : OpR X (compareOp .Eq) (rTupO X.K C sp (n + 1) id) := by
  intro pins s σ H x y v u Q I rx ry h
  obtain ⟨G, b, t1, t2, vs, ws, rfl, rfl, p1, p2, hG, he, hQ⟩ := h
  have T := Lay.Inv.tupInj I
  replace he := he T
  obtain rfl : v = Value.ref t1 := rx
  obtain rfl : u = Value.ref t2 := ry
  obtain ⟨its, rs, hl, _⟩ := I.tuple p1
  obtain ⟨jts, ss, hb, _⟩ := I.tuple p2
  have l1 := rs.length
  have l2 := ss.length
  cases he with
  | own h h2 =>
    obtain ⟨⟨dx, fs, e⟩, _⟩ := h H hG
    exact (T.no _ _ _ _ _ p1 e).elim
  | @tup _ _ _ vs' ws' e h he h2 =>
    obtain ⟨q1, q2⟩ := h H hG
    obtain rfl := T.inj _ _ _ p1 q1
    obtain rfl := T.inj _ _ _ p2 q2
    have hr' := hr.mono hj
    refine tup_eqG (es := (List.range (min its.length jts.length)).map e) (G := fun s => ∃ H, Inv X pins σ H s ∧ G H) hl hb hr'.units0 ⟨H, I, hG⟩ (paired_at (by simp) fun i a p ea ep => ?_) fun s' ⟨H', I', hG'⟩ => ?_
    · obtain ⟨hia, e1, e2⟩ := zip_two ep ea
      subst hia
      obtain ⟨u, f1, r1⟩ := rs.get (i := i) (x := vs[i]'(by have := lt_of_get e1; omega)) (List.getElem?_eq_getElem _)
      obtain ⟨u', f2, r2⟩ := ss.get (i := i) (x := ws[i]'(by have := lt_of_get e2; omega)) (List.getElem?_eq_getElem _)
      rw [e1] at f1
      rw [e2] at f2
      cases f1; cases f2
      exact fun s ⟨H', I', hG'⟩ Q hq => M.item (he i _ _ (List.getElem?_eq_getElem _) (List.getElem?_eq_getElem _)) hr'.in1 hg (fun H s I => I.env0.in1) I' hG' r1 r2 fun H2 s2 I2 G2 => hq s2 ⟨H2, I2, G2⟩
    · have := hQ H' hG'
      refine ⟨_, H', I', ?_, this⟩
      rw [l1, l2]
      simp [L2.RelV, List.all_map]
theorem Method.tupNe {sp : Sp} {n : Nat} (M : Method X.prog X.w X.K X.mg X.base CX0 k C "__eq__" D' ps sp) (hr : Room j X.A) (hg : X.A.guards = some []) (hj : k + n + 1 ≤ j) : OpR X (compareOp .NotEq) (rTupO X.K C sp (n + 1) not) := by
  intro pins s σ H x y v u Q I rx ry h
  obtain ⟨G, b, t1, t2, vs, ws, rfl, rfl, p1, p2, hG, he, hQ⟩ := h
  have T := Lay.Inv.tupInj I
  replace he := he T
  obtain rfl : v = Value.ref t1 := rx
  obtain rfl : u = Value.ref t2 := ry
  obtain ⟨its, rs, hl, _⟩ := I.tuple p1
  obtain ⟨jts, ss, hb, _⟩ := I.tuple p2
  have l1 := rs.length
  have l2 := ss.length
  cases he with
  | own h h2 =>
    obtain ⟨⟨dx, fs, e⟩, _⟩ := h H hG
    exact (T.no _ _ _ _ _ p1 e).elim
  | @tup _ _ _ vs' ws' e h he h2 =>
    obtain ⟨q1, q2⟩ := h H hG
    obtain rfl := T.inj _ _ _ p1 q1
    obtain rfl := T.inj _ _ _ p2 q2
    have hr' := hr.mono hj
    refine tup_neG (es := (List.range (min its.length jts.length)).map e) (G := fun s => ∃ H, Inv X pins σ H s ∧ G H) hl hb hr'.units0 ⟨H, I, hG⟩ (paired_at (by simp) fun i a p ea ep => ?_) fun s' ⟨H', I', hG'⟩ => ?_
    · obtain ⟨hia, e1, e2⟩ := zip_two ep ea
      subst hia
      obtain ⟨u, f1, r1⟩ := rs.get (i := i) (x := vs[i]'(by have := lt_of_get e1; omega)) (List.getElem?_eq_getElem _)
      obtain ⟨u', f2, r2⟩ := ss.get (i := i) (x := ws[i]'(by have := lt_of_get e2; omega)) (List.getElem?_eq_getElem _)
      rw [e1] at f1
      rw [e2] at f2
      cases f1; cases f2
      exact fun s ⟨H', I', hG'⟩ Q hq => M.item (he i _ _ (List.getElem?_eq_getElem _) (List.getElem?_eq_getElem _)) hr'.in1 hg (fun H s I => I.env0.in1) I' hG' r1 r2 fun H2 s2 I2 G2 => hq s2 ⟨H2, I2, G2⟩
    · have := hQ H' hG'
      refine ⟨_, H', I', ?_, this⟩
      rw [l1, l2]
      simp [L2.RelV, List.all_map]
theorem Method.dTupEq {sp : PSp} {n : Nat} {ta tb : DX D} (M : Method X.prog X.w X.K X.mg X.base CX0 k C "__eq__" D' ps (lift X.K sp)) (hr : Room j X.A) (hg : X.A.guards = some []) (ha : DE X W a ta) (hb : DE X W b tb) (hj : k + n + 1 ≤ j := by decide) : DE X W (.Compare a [.Eq] [b] pos) (dTupO (n + 1) C sp id ta tb) :=
  pe_to (pe_cmpR (Method.tupEq M hr hg hj) ha hb (nomark _)) fun _ _ _ h => h.tupO
theorem Method.dTupNe {sp : PSp} {n : Nat} {ta tb : DX D} (M : Method X.prog X.w X.K X.mg X.base CX0 k C "__eq__" D' ps (lift X.K sp)) (hr : Room j X.A) (hg : X.A.guards = some []) (ha : DE X W a ta) (hb : DE X W b tb) (hj : k + n + 1 ≤ j := by decide) : DE X W (.Compare a [.NotEq] [b] pos) (dTupO (n + 1) C sp not ta tb) :=
  pe_to (pe_cmpR (Method.tupNe M hr hg hj) ha hb (nomark _)) fun _ _ _ h => h.tupO
theorem Method.tTupEq {sp : PSp} {n : Nat} {ta tb : DX D} (M : Method X.prog X.w X.K X.mg X.base CX0 k C "__eq__" D' ps (lift X.K sp)) (hr : Room j X.A) (hg : X.A.guards = some []) (ha : DE X W a ta) (hb : DE X W b tb) (hj : k + n + 1 ≤ j := by decide) : DT X W (.Compare a [.Eq] [b] pos) (dTest (dTupO (n + 1) C sp id ta tb)) :=
  pt_to (pt_cmpR (Method.tupEq M hr hg hj) ha hb (nomark _)) fun _ _ _ h => h.test.tupO
theorem Method.tTupNe {sp : PSp} {n : Nat} {ta tb : DX D} (M : Method X.prog X.w X.K X.mg X.base CX0 k C "__eq__" D' ps (lift X.K sp)) (hr : Room j X.A) (hg : X.A.guards = some []) (ha : DE X W a ta) (hb : DE X W b tb) (hj : k + n + 1 ≤ j := by decide) : DT X W (.Compare a [.NotEq] [b] pos) (dTest (dTupO (n + 1) C sp not ta tb)) :=
  pt_to (pt_cmpR (Method.tupNe M hr hg hj) ha hb (nomark _)) fun _ _ _ h => h.test.tupO
end
/-! ### x.lower(), x.upper() -/
def caseD (g : Str → Str) : FnS
  | a, [], k => a.length ≤ 5592405 ∧ k (.str (g a))
  | _, _, _ => False
theorem e_caseD (g : Str → Str) (a : Str) (k : D → Prop) : caseD g a [] k = (a.length ≤ 5592405 ∧ k (.str (g a))) := rfl
section
variable {X : Cx}
theorem md_lower : MtR X "str.lower" (MtS X.K (caseD Txt.lower)) := by
  rintro pins s σ H x xs v us Q I rx rs ⟨N, z, y, ds, R, al, rfl, rp, h, k⟩
  unfold caseD at h
  split at h
  · rw [RepPs] at rp
    subst rp
    exact mt_lower pins s σ H _ _ v us Q I rx rs ⟨_, rfl, rfl, h.1, k _ _ H h.2 same0 .s⟩
  · exact h.elim
theorem md_upper : MtR X "str.upper" (MtS X.K (caseD Txt.upper)) := by
  rintro pins s σ H x xs v us Q I rx rs ⟨N, z, y, ds, R, al, rfl, rp, h, k⟩
  unfold caseD at h
  split at h
  · rw [RepPs] at rp
    subst rp
    exact mt_upper pins s σ H _ _ v us Q I rx rs ⟨_, rfl, rfl, h.1, k _ _ H h.2 same0 .s⟩
  · exact h.elim
end
/-! ### f(e, .., k=v, ..), a def that raises, with defaults -/
def tKwS (n m : Nat) (sp : Sp) (gV : List V → List V → List V) (E : L2.St → XK) (t tk : TA) : TE := fun σ H Q =>
  t σ H fun vs H1 => tk σ H1 fun zs H2 => vs.length = n ∧ zs.length = m ∧ sp (gV vs zs) H2 Q (E σ)
section
variable {X : Cx} {W : WX} {CX : CXT} {j k n : Nat} {ps ks : List Str} {st : Stmt} {x : Str} {p pos : Pos} {e : Expr} {es : List Expr} {kws : List Keyword}
  {g : List Value → List Value → List Value} {gV : List V → List V → List V} {gD : List D → List D → List D}
theorem Callee.kwS {sp : Sp} {E : L2.St → XK} {t tk : TA} (C : Callee X.prog X.w X.K X.mg X.base CX k x st ps sp) (hb : ∀ (f : Addr) (fd : FuncData), Fun X.K x x st f fd → ∃ g, KwB X.K fd ps n ks g gV) (hG : Gl X x) (hr : Room j X.A) (hg : X.A.guards = some [])
    (hx : ∀ σ, PassesAt CX X σ (E σ)) (ha : PA X (e :: es) t) (hkw : PK X kws tk) (hj : k ≤ j)
    (hall : (backToKw pos (keywordEach kws X.env)).all (·.1.isSome) = true) (hks : (backToKw pos (keywordEach kws X.env)).filterMap (·.1) = ks)
    (hdb : (x == ("__debug__" : Str)) = false) (he : starEach (e :: es) X.env = (false, eval e X.env) :: starEach es X.env)
    (hpl : ((backTo pos (starEach (e :: es) X.env)).any (·.1) || (backToKw pos (keywordEach kws X.env)).any (·.1.isNone)) = false) :
    PE X (.Call (.Name x p) (e :: es) kws pos) (tKwS n ks.length sp gV E t tk) := by
  obtain ⟨f, fd, hm, F, b, G⟩ := C.ex
  obtain ⟨g, hb⟩ := hb f fd F
  constructor
  intro pins s σ H Q I h
  refine wpAny_Call_Name_kw (ld_glob I hG hm ?_ hdb)
  refine PySem.W.callWith_KW (h₀ := X.base) I.ok.mod.kin F.kp hall (thn (ha.run pos pins s σ H _ I h) ?_) hpl he
  rintro us s1 ⟨vs, H1, I1, r, q⟩
  refine thn (hkw.run pos pins s1 σ H1 _ I1 q) ?_
  rintro ws s2 ⟨zs, H2, I2, rz, l1, l2, q2⟩
  refine ⟨I2.kIn, ?_⟩
  rw [hks]
  exact gcallS (args := ⟨us, ks.zip ws⟩) G (hr.mono hj) hg (hb.to s2 us ws I2.kIn (by rw [← r.length]; exact l1) (by rw [← rz.length]; exact l2)) (hx σ) I2 (hb.rel vs zs us ws l1 l2 r rz) q2
theorem Callee.kw0S {sp : Sp} {E : L2.St → XK} {tk : TA} (C : Callee X.prog X.w X.K X.mg X.base CX k x st ps sp) (hb : ∀ (f : Addr) (fd : FuncData), Fun X.K x x st f fd → ∃ g, KwB X.K fd ps 0 ks g gV) (hG : Gl X x) (hr : Room j X.A) (hg : X.A.guards = some [])
    (hx : ∀ σ, PassesAt CX X σ (E σ)) (hkw : PK X kws tk) (hj : k ≤ j)
    (hall : (backToKw pos (keywordEach kws X.env)).all (·.1.isSome) = true) (hks : (backToKw pos (keywordEach kws X.env)).filterMap (·.1) = ks)
    (hdb : (x == ("__debug__" : Str)) = false)
    (hpl : ((backTo pos (starEach [] X.env)).any (·.1) || (backToKw pos (keywordEach kws X.env)).any (·.1.isNone)) = false) :
    PE X (.Call (.Name x p) [] kws pos) (tKwS 0 ks.length sp gV E tNil tk) := by
  obtain ⟨f, fd, hm, F, b, G⟩ := C.ex
  obtain ⟨g, hb⟩ := hb f fd F
  constructor
  intro pins s σ H Q I h
  refine wpAny_Call_Name_kw (ld_glob I hG hm ?_ hdb)
  refine PySem.W.callWith_KW0 (h₀ := X.base) I.ok.mod.kin F.kp hall ?_ hpl
  refine thn (hkw.run pos pins s σ H _ I h) ?_
  rintro ws s2 ⟨zs, H2, I2, rz, l1, l2, q2⟩
  refine ⟨I2.kIn, ?_⟩
  rw [hks]
  exact gcallS (args := ⟨[], ks.zip ws⟩) G (hr.mono hj) hg (hb.to s2 [] ws I2.kIn rfl (by rw [← rz.length]; exact l2)) (hx σ) I2 (hb.rel [] zs [] ws l1 l2 .nil rz) q2
theorem UG.callKwS {K : PySem.W.Frag} {t tk : DX (List D)} {sp : PSp} {nn mm : Nat} {σ : L2.St} {H : Hp} {Q : VK} (kd : KwD nn mm gV gD) (h : UG K W (relE K) (dCallKw nn mm gD sp t tk) σ H Q) : tKwS nn mm (lift K sp) gV (WE W) (UG K W (relEs K) t) (UG K W (relEs K) tk) σ H Q :=
  let ⟨M, ρ, z, O, R, RX, w, h, x, k⟩ := h
  ⟨M, ρ, z, O, _, RX, w, h, x, fun ds ρ1 z1 vs H1 O1 h1 g1 w1 r1 => ⟨M, ρ1, z1, O1, _, RX, w1, h1, x.after g1.toGo, fun es ρ2 z2 ws H2 O2 ⟨l1, l2, h2⟩ g2 w2 r2 =>
    ⟨by rw [← Reps.length r1]; exact l1, by rw [← Reps.length r2]; exact l2, lift_at w2 (kd K _ _ ds es vs ws l1 l2 (Reps.mono g2.ext _ _ r1) r2) h2 (fun d z' v H' hd g w r => k d ρ2 z' v H' O2 hd (g1.trans (g2.trans g)) w r) (x.after (g1.trans g2).toGo)⟩⟩⟩
theorem UG.callKw0S {K : PySem.W.Frag} {t tk : DX (List D)} {sp : PSp} {nn mm : Nat} {σ : L2.St} {H : Hp} {Q : VK} {E : L2.St → XK} (kd : KwD nn mm gV gD) (h : UG K W (relE K) (dCallKw0 nn mm gD sp t tk) σ H Q) : tKwS nn mm (lift K sp) gV E (UG K W (relEs K) t) (UG K W (relEs K) tk) σ H Q :=
  let ⟨M, ρ, z, O, R, RX, w, h, x, k⟩ := h
  ⟨M, ρ, z, O, _, RX, w, h, x, fun ds ρ1 z1 vs H1 O1 h1 g1 w1 r1 => ⟨M, ρ1, z1, O1, _, RX, w1, h1, x.after g1.toGo, fun es ρ2 z2 ws H2 O2 ⟨l1, l2, h2⟩ g2 w2 r2 =>
    ⟨by rw [← Reps.length r1]; exact l1, by rw [← Reps.length r2]; exact l2, lift_at0 w2 (kd K _ _ ds es vs ws l1 l2 (Reps.mono g2.ext _ _ r1) r2) h2 (fun d z' v H' hd g w r => k d ρ2 z' v H' O2 hd (g1.trans (g2.trans g)) w r)⟩⟩⟩
variable {sp : PSp} {t tk : DX (List D)}
theorem tKwS_nil {K : PySem.W.Frag} {m : Nat} {E : L2.St → XK} {sp : Sp} {tk : TA} {σ : L2.St} {H : Hp} {Q : VK} (h : tKwS 0 m sp gV E (UG K W (relEs K) dNil) tk σ H Q) : tKwS 0 m sp gV E tNil tk σ H Q := by
  obtain ⟨M, ρ, z, O, R, RX, w, h, x, k⟩ := h
  exact k [] ρ z [] H O h .refl w .nil
theorem Callee.dkwX {E : L2.St → XK} (C : Callee X.prog X.w X.K X.mg X.base CX k x st ps (lift X.K sp)) (kd : KwD n ks.length gV gD) (hb : ∀ (f : Addr) (fd : FuncData), Fun X.K x x st f fd → ∃ g, KwB X.K fd ps n ks g gV) (hG : Gl X x) (hr : Room j X.A) (hg : X.A.guards = some [])
    (hx : ∀ σ, PassesAt CX X σ (E σ)) (ha : DAs X W (e :: es) t) (hkw : DKw X W kws tk) (hj : k ≤ j := by decide) (hall : (backToKw pos (keywordEach kws X.env)).all (·.1.isSome) = true := by rfl) (hks : (backToKw pos (keywordEach kws X.env)).filterMap (·.1) = ks := by rfl)
    (hdb : (x == ("__debug__" : Str)) = false := by decide) (he : starEach (e :: es) X.env = (false, eval e X.env) :: starEach es X.env := by rfl)
    (hpl : ((backTo pos (starEach (e :: es) X.env)).any (·.1) || (backToKw pos (keywordEach kws X.env)).any (·.1.isNone)) = false := by rfl) :
    DE X W (.Call (.Name x p) (e :: es) kws pos) (dCallKw0 n ks.length gD sp t tk) := pe_to (C.kwS hb hG hr hg hx ha hkw hj hall hks hdb he hpl) fun _ _ _ h => UG.callKw0S kd h
theorem Callee.dkwXE (C : Callee X.prog X.w X.K X.mg X.base CX k x st ps (lift X.K sp)) (kd : KwD n ks.length gV gD) (hb : ∀ (f : Addr) (fd : FuncData), Fun X.K x x st f fd → ∃ g, KwB X.K fd ps n ks g gV) (hG : Gl X x) (hr : Room j X.A) (hg : X.A.guards = some [])
    (hx : ∀ σ, PassesAt CX X σ (WE W σ)) (ha : DAs X W (e :: es) t) (hkw : DKw X W kws tk) (hj : k ≤ j := by decide) (hall : (backToKw pos (keywordEach kws X.env)).all (·.1.isSome) = true := by rfl) (hks : (backToKw pos (keywordEach kws X.env)).filterMap (·.1) = ks := by rfl)
    (hdb : (x == ("__debug__" : Str)) = false := by decide) (he : starEach (e :: es) X.env = (false, eval e X.env) :: starEach es X.env := by rfl)
    (hpl : ((backTo pos (starEach (e :: es) X.env)).any (·.1) || (backToKw pos (keywordEach kws X.env)).any (·.1.isNone)) = false := by rfl) :
    DE X W (.Call (.Name x p) (e :: es) kws pos) (dCallKw n ks.length gD sp t tk) := pe_to (C.kwS hb hG hr hg hx ha hkw hj hall hks hdb he hpl) fun _ _ _ h => UG.callKwS kd h
theorem Callee.dkw0X {E : L2.St → XK} (C : Callee X.prog X.w X.K X.mg X.base CX k x st ps (lift X.K sp)) (kd : KwD 0 ks.length gV gD) (hb : ∀ (f : Addr) (fd : FuncData), Fun X.K x x st f fd → ∃ g, KwB X.K fd ps 0 ks g gV) (hG : Gl X x) (hr : Room j X.A) (hg : X.A.guards = some [])
    (hx : ∀ σ, PassesAt CX X σ (E σ)) (hkw : DKw X W kws tk) (hj : k ≤ j := by decide) (hall : (backToKw pos (keywordEach kws X.env)).all (·.1.isSome) = true := by rfl) (hks : (backToKw pos (keywordEach kws X.env)).filterMap (·.1) = ks := by rfl)
    (hdb : (x == ("__debug__" : Str)) = false := by decide) (hpl : ((backTo pos (starEach [] X.env)).any (·.1) || (backToKw pos (keywordEach kws X.env)).any (·.1.isNone)) = false := by rfl) :
    DE X W (.Call (.Name x p) [] kws pos) (dCallKw0 0 ks.length gD sp dNil tk) := pe_to (C.kw0S hb hG hr hg hx hkw hj hall hks hdb hpl) fun _ _ _ h => tKwS_nil (UG.callKw0S kd h)
theorem Callee.dkw0XE (C : Callee X.prog X.w X.K X.mg X.base CX k x st ps (lift X.K sp)) (kd : KwD 0 ks.length gV gD) (hb : ∀ (f : Addr) (fd : FuncData), Fun X.K x x st f fd → ∃ g, KwB X.K fd ps 0 ks g gV) (hG : Gl X x) (hr : Room j X.A) (hg : X.A.guards = some [])
    (hx : ∀ σ, PassesAt CX X σ (WE W σ)) (hkw : DKw X W kws tk) (hj : k ≤ j := by decide) (hall : (backToKw pos (keywordEach kws X.env)).all (·.1.isSome) = true := by rfl) (hks : (backToKw pos (keywordEach kws X.env)).filterMap (·.1) = ks := by rfl)
    (hdb : (x == ("__debug__" : Str)) = false := by decide) (hpl : ((backTo pos (starEach [] X.env)).any (·.1) || (backToKw pos (keywordEach kws X.env)).any (·.1.isNone)) = false := by rfl) :
    DE X W (.Call (.Name x p) [] kws pos) (dCallKw 0 ks.length gD sp dNil tk) := pe_to (C.kw0S hb hG hr hg hx hkw hj hall hks hdb hpl) fun _ _ _ h => tKwS_nil (UG.callKwS kd h)
end
/-! ### range(a, b, c), any step -/
def rngS : List D → (List D → Prop) → Prop
  | [.int i, .int j, .int c], k => c ≠ 0 ∧ c.natAbs < 1073741824 ∧ Builtin.Range.small i j c = true ∧ k (rngC i c (Builtin.Range.rangeSize i j c).toNat)
  | _, _ => False
theorem e_rngS (i j c : Int) (k : List D → Prop) : rngS [.int i, .int j, .int c] k = (c ≠ 0 ∧ c.natAbs < 1073741824 ∧ Builtin.Range.small i j c = true ∧ k (rngC i c (Builtin.Range.rangeSize i j c).toNat)) := rfl
section
variable {X : Cx} {W : WX} {a b c tg : Expr} {p pos : Pos}
theorem di_rangeS {t : DX (List D)} (hg : Gl X "range") (hm : X.mg "range" = none) (ha : DA X W [a, b, c] t) (hs : starEach [a, b, c] X.env = (false, eval a X.env) :: starEach [b, c] X.env := by rfl)
    (hpl : (backTo pos (starEach [b, c] X.env)).any (·.1) = false := by rfl) :
    DI X W tg (.Call (.Name "range" p) [a, b, c] [] pos) (dItA rngS t) := pi_to (pi_range3 hg hm ha hs hpl) fun σ H Q ⟨M, ρ, z, O, R, RX, w, h, x, k⟩ => ⟨M, ρ, z, O, _, RX, w, h, x, fun ds ρ' z' vs H' O' hd g w' r => by
    unfold rngS at hd
    split at hd
    · obtain ⟨v, vr, rfl, r1, r⟩ := r
      obtain ⟨v2, vr, rfl, r2, r⟩ := r
      obtain ⟨v3, vr, rfl, r3, r⟩ := r
      obtain rfl := r1.int
      obtain rfl := r2.int
      obtain rfl := r3.int
      obtain ⟨h1, h2, h3, hd⟩ := hd
      cases r
      exact ⟨_, _, _, _, rfl, ⟨h1, h2, h3, rangeSize_toNat _ _ _⟩, k _ ρ' z' H' O' _ hd g w' walkd_rngC⟩
    · exact hd.elim⟩
end
end Lay

set_option Elab.async false
set_option linter.all false
set_option maxRecDepth 100000
set_option maxHeartbeats 2000000
namespace Lay
open PySem PySem.Spec PyProof.Rows L2
open MeetsSeq MeetsSeq2 MeetsSeq3 SeqRoads2
/-! ### enumerate(x), x a list, a tuple or a text -/
abbrev enumObj (n : Nat) : Obj := { cls := .type "enumerate", data := .fields #[.none, .bool false, .ref n, rawInt 0, .none, .none] }
theorem meets_enum1 {v : Value} {o : Obj} {Hh : Heap → Prop} (B : Begins v o Hh) : Meets (Builtin.«enumerate.__new__» ⟨[.type "enumerate", v], []⟩)
    (fun _ R s => Hh s.heap ∧ R (.ok (.ret (.ref (s.heap.push o).objs.size))) { s with heap := (s.heap.push o).push (enumObj s.heap.objs.size) }) :=
  .of_wp fun prog w A R s h => by
    have sub := sub_enumerate
    have go : ∀ {B2 : Around} {E : Value → Shared → Prop} {Q : Value → Shared → Prop}, Q (.ref s.heap.objs.size) { s with heap := s.heap.push o } → wpAny (model prog w) B2 (pyIter v) Q E s := fun q => B.iter prog w _ _ s _ h.1 q
    cases s
    wp_walk using go
    refine wpAny_stack_any fun frames => wpAny_pure ?_
    refine wpAny_ite_split (fun _ => ?_) (fun _ => ?_)
    · wp_walk using go
      exact ⟨_, rfl, h.2⟩
    · wp_walk using go
      exact ⟨_, rfl, h.2⟩
theorem enum1_begins {prog : Program} {w : World} {A : Around} {E : Value → Shared → Prop} {s : Shared} {v : Value} {o : Obj} {Hh : Heap → Prop} {Q : Value → Shared → Prop} (B : Begins v o Hh) (h1 : Hh s.heap)
    (h : ∀ h', IsEnum h' (s.heap.objs.size + 1) s.heap.objs.size 0 .none → h'.get? s.heap.objs.size = some o → (∀ b o, s.heap.get? b = some o → h'.get? b = some o) → Q (.ref (s.heap.objs.size + 1)) { s with heap := h' }) :
    wpAny (model prog w) A (call (.type "enumerate") [v]) Q E s := by
  refine callType_new F.called_enumerate (by decide) (F.typeCall_enumerate_1 _) (F.newCall_enumerate_1 _) (fun obj => F.args_object_init_2 obj _) F.entry_enumerate_new (meets_enum1 B) ⟨h1, ?_⟩
  have hz : (s.heap.push o).objs.size = s.heap.objs.size + 1 := Heap.size_push ..
  have he : IsEnum ((s.heap.push o).push (enumObj s.heap.objs.size)) (s.heap.objs.size + 1) s.heap.objs.size 0 .none := by
    rw [← hz]
    exact Heap.get?_push_size (s.heap.push o) rfl
  show _ ∧ _
  rw [hz]
  exact ⟨⟨_, he, rfl⟩, h _ he (Heap.get?_push_of_some _ (Heap.get?_push_size _ B.free)) fun b o x => Heap.get?_push_of_some _ (Heap.get?_push_of_some _ x)⟩
/-- the items in new pairs with their places -/
def IteG (K : PySem.W.Frag) (p : ZS) : It :=
  ⟨fun i H => ∃ (xs : List V) (x : V), p.at K H xs ∧ xs[i]? = some x,
   fun i H v H' => ∃ T x, v = .ref T ∧ H T = none ∧ H' = upd H T (.tup [.int (i : Nat), x]) ∧ ∀ xs, p.at K H xs → xs[i]? = some x,
   fun i H => ∃ xs : List V, p.at K H xs ∧ i = xs.length⟩
theorem turn_enumG {P : Program} {w : World} {K : PySem.W.Frag} {elts : List Expr} {kk : Nat} {tpos : Pos} {p : ZS} {k : Tok} {n : Nat} (s1 : ∀ c ∈ p.cell, c < n) :
    Turn P w K (.Tuple elts kk tpos) (IteG K p) [n + 1, n] (n + 1) (fun i h => (∃ old, IsEnum h (n + 1) n (i : Nat) old) ∧ p.it k n i h) where
  mem := List.mem_cons_self
  obj := fun i h st c hc => by
    obtain ⟨⟨old, a1⟩, a2⟩ := st
    simp only [List.mem_cons, List.not_mem_nil, or_false] at hc
    rcases hc with e | e
    · subst e; exact ⟨_, a1, fun v z => nomatch z⟩
    · subst e; exact ZS.it_obj a2
  keep := fun i h h' st k => by
    obtain ⟨⟨old, a1⟩, a2⟩ := st
    exact ⟨⟨old, k _ (by simp) _ a1⟩, ZS.it_to (fun o e => k _ (by simp) o e) a2⟩
  item := by
    intro X hP hw hK hc i pins s σ H E I hf st hg
    subst hP hw hK
    obtain ⟨⟨old, a1⟩, a2⟩ := st
    obtain ⟨xs, x, hp, hx⟩ := hg
    obtain ⟨St1, P1, D1, u1, v1, w1⟩ := ZS.draws I hc hp k (x := n) fun c m => Nat.ne_of_lt (s1 c m)
    have nz : n + 1 < s.heap.objs.size := Heap.lt_size a1
    have hef : n + 1 ∉ n :: p.cell := fun q => by
      rcases List.mem_cons.mp q with e | e
      · exact Nat.succ_ne_self n e
      · exact Nat.not_lt.mpr (Nat.le_succ n) (s1 _ e)
    refine wpAny_pyNext_enum_itemC D1 a1 (u1 i a2) (lt_of_get hx) (Nat.succ_ne_self n) hef fun b h' tk p1 ho st' hT hsz hk => ?_
    obtain ⟨x', ex, r1⟩ := w1 i b p1
    rw [hx] at ex; cases ex
    refine ⟨_, rfl, wpAny_letOwnedTupleGo_enum (s := ⟨h', s.gens, s.drawn, tk + 1, s.os⟩) ho fun h2 he' sb => ?_⟩
    have at2 : ∀ c o, c ≠ n + 1 → h'.get? c = some o → h2.get? c = some o := fun c o hc e => (sb.2 c hc).trans e
    have hT2 := at2 _ _ (Nat.ne_of_gt nz) hT
    have ok : ObjOk X.prog X.w (upd H s.heap.objs.size (.tup [.int (i : Nat), x])) h2 s.heap.objs.size (.tup [.int (i : Nat), x]) := ⟨(show 2 ≤ sizeLine by decide), [.int i tk, b], .cons ⟨_, rfl⟩ (.cons r1 .nil), _, hT2, rfl, _, rfl⟩
    have I1 := I.turnedNew (t' := tk + 1) (ch := [n + 1, n]) (fun c o hb e => at2 c o (fun z => hb (by simp [z])) (hk c o (fun z => hb (by simp [z])) (fun z => hb (by simp [z])) e)) hf (Nat.le_refl _) ok
    refine ⟨.ref s.heap.objs.size, _, I1, rfl, ⟨_, x, rfl, I.hok.fresh (Nat.le_refl _), rfl, fun l hl => by rw [ZS.at_inj I hl hp]; exact hx⟩, ⟨⟨b, ?_⟩, ZS.it_to (fun o e => at2 _ o (Nat.ne_of_lt (Nat.lt_succ_self n)) e) (v1 _ _ st')⟩, fun c hcm => ?_⟩
    · rw [show ((i + 1 : Nat) : Int) = (i : Int) + 1 by omega]
      exact he'
    · have hc' : c < s.heap.objs.size := by
        simp only [List.mem_cons, List.not_mem_nil, or_false] at hcm
        rcases hcm with e | e
        · rw [e]; exact nz
        · rw [e]; exact Nat.lt_of_succ_lt nz
      rw [upd_ne (Nat.ne_of_lt hc')]
      exact (hf c hcm).1
  done := by
    intro X hP hw hK hc i pins s σ H E I hf st hg
    subst hP hw hK
    obtain ⟨⟨old, a1⟩, a2⟩ := st
    obtain ⟨xs, hp, hx⟩ := hg
    obtain ⟨St1, P1, D1, u1, v1, w1⟩ := ZS.draws I hc hp k (x := n) fun c m => Nat.ne_of_lt (s1 c m)
    subst hx
    refine wpAny_pyNext_enum_endD D1 a1 (u1 _ a2) fun h' hk => ⟨rfl, I.turnedL (t' := s.toks) (ch := [n + 1, n]) (fun c o hb e => hk c o (fun z => hb (by simp [z])) e) hf⟩
  self := fun A i s Q E st h => let ⟨⟨_, he⟩, _⟩ := st; wpAny_pyIter_enum he h
section
variable {X : Cx} {W : WX} {e a b : Expr} {pos p : Pos}
def iEnumG (K : PySem.W.Frag) (ta : TA) : TI := fun σ H R => ta σ H fun vs H1 => ∃ p xs v1, vs = [v1] ∧ ZS.val p v1 ∧ p.at K H1 xs ∧ R (IteG K p) H1
theorem pi_enumG {ta : TA} {tpos : Pos} {elts : List Expr} {kk : Nat} (hg : Gl X "enumerate") (hm : X.mg "enumerate" = none) (ha : PA X [e] ta) (hs : starEach [e] X.env = [(false, eval e X.env)] := by rfl) :
    PI X (.Tuple elts kk tpos) (.Call (.Name "enumerate" p) [e] [] pos) (iEnumG X.K ta) := ⟨fun pins s σ H R I h => by
  refine Call_ (ld_blt I hg hm boot_enumerate (PyProof.Rows.callWith_type1 (thn (ha.run pos pins s σ H _ I h) fun us t ⟨vs, H1, I1, r1, q1⟩ => ?_) hs rfl))
  obtain ⟨p, xs, v1, rfl, e1, hp, hR⟩ := q1
  obtain ⟨u1, r0, ra⟩ : ∃ u1, us = [u1] ∧ RelV v1 u1 := by cases r1 with | cons r rr => cases rr; exact ⟨_, rfl, r⟩
  subst r0
  obtain ⟨o1, Hh1, k1, B1, c1, d1, f1⟩ := ZS.begins I1 hp e1 ra
  refine enum1_begins B1 c1 fun h' he g1 hk => wpAny_pyIter_enum he ?_
  refine ⟨_, _, _, _, H1, rfl, I1.kept (t' := t.toks) hk, turn_enumG (k := k1) (n := t.heap.objs.size) f1, ⟨⟨_, he⟩, d1 _ _ g1⟩, fun c m => ?_, hR⟩
  have hle : t.heap.objs.size ≤ c := by
    simp only [List.mem_cons, List.not_mem_nil, or_false] at m
    rcases m with e | e
    · rw [e]; exact Nat.le_succ _
    · rw [e]; exact Nat.le_refl _
  exact I1.fpOk hle (I1.hok.fresh hle)⟩
theorem walkd_enumG {K : PySem.W.Frag} {N : Addr → Prop} {H : Hp} {p : ZS} {ds : List D} {vs : List V} (h1 : p.atN K N H vs) (r1 : Reps K N H ds vs) : WalkD K (IteG K p) (ds.mapIdx fun i d => .tup [.int i, d]) N H := fun N' H' e al => by
  have h1' : ZS.atN K N' H' p vs := ZS.atN_to e h1
  have r1' := Reps.mono e _ _ r1
  rw [List.length_mapIdx]
  refine ⟨fun i hi => ?_, ⟨vs, ZS.atN_at h1', r1'.length.symm ▸ rfl⟩, fun i x H2 d hd y => ?_⟩
  · rw [r1'.length] at hi
    exact ⟨vs, vs[i], ZS.atN_at h1', List.getElem?_eq_getElem hi⟩
  · obtain ⟨T, v, rfl, hT, rfl, y⟩ := y
    rw [List.getElem?_mapIdx] at hd
    obtain ⟨d', e0, rfl⟩ := Option.map_eq_some_iff.mp hd
    obtain ⟨u, f1, f2⟩ := r1'.get e0
    have z := y vs (ZS.atN_at h1')
    rw [f1] at z; cases z
    exact ⟨same_new hT, Rep.tupNew al hT (same_new hT) upd_same (.cons .i (.cons f2 .nil))⟩
def enumG : List D → (List D → Prop) → Prop
  | [d], k => iterD d fun ds => k (ds.mapIdx fun i d => .tup [.int i, d])
  | _, _ => False
theorem e_enumG (d : D) (k : List D → Prop) : enumG [d] k = iterD d (fun ds => k (ds.mapIdx fun i d => .tup [.int i, d])) := rfl
theorem di_enumG {tpos : Pos} {elts : List Expr} {kk : Nat} {t : DX (List D)} (hg : Gl X "enumerate") (hm : X.mg "enumerate" = none) (ha : DAs X W [e] t) (hs : starEach [e] X.env = [(false, eval e X.env)] := by rfl) :
    DI X W (.Tuple elts kk tpos) (.Call (.Name "enumerate" p) [e] [] pos) (dItA enumG t) := pi_to (pi_enumG hg hm ha hs) fun σ H Q ⟨M, ρ, z, O, R, RX, w, h, x, k⟩ =>
  ⟨M, ρ, z, O, _, RX, w, h, x, fun ds ρ' z' vs H' O' hd g w' r => by
    unfold enumG at hd
    split at hd
    · obtain ⟨v, rfl, r1⟩ := reps1 r
      obtain ⟨p, ds, xs, hv, hp, hr, hk⟩ := src_of r1 hd
      exact ⟨p, xs, v, rfl, hv, ZS.atN_at hp, k _ ρ' z' H' O' _ hk g w' (walkd_enumG hp hr)⟩
    · exact hd.elim⟩
end
end Lay

set_option Elab.async false
set_option linter.all false
set_option maxRecDepth 100000
set_option maxHeartbeats 2000000
namespace Lay
open PySem PySem.Spec PyProof.Rows L2
/-! ### list(text), and list(..) as a list of one's own -/
theorem call_list_txt {X : Cx} (hc : X.calm = true) : CallR X (.type "list") (fun xs H Q => ∃ z : Str, xs = [.str z] ∧ z.length ≤ sizeLine ∧ ∀ p, H p = none → Q (.ref p) (upd H p (.lst (signsV z)))) := by
  rintro pins s σ H xs us Q I r ⟨z, rfl, hz, q⟩
  obtain ⟨u, rfl, t, rfl⟩ := vals1 r
  refine call_list_str (I.ok.hd hc) z t (fun h' tk acc' c' hk hS hacc => ?_) hz
  have el : acc'.toList.length = acc'.size := by simp
  refine ⟨.ref s.heap.objs.size, upd H s.heap.objs.size (.lst (signsV z)), I.laid hk (Nat.le_refl _) (show ObjOk X.prog X.w _ _ _ (.lst (signsV z)) from ⟨?_, acc'.toList, c', ?_, ?_⟩), rfl, q _ (I.hok.fresh (Nat.le_refl _))⟩
  · unfold signsV; rw [List.length_map]; exact hz
  · refine vals_of_at (by rw [el, hacc.1]; unfold signsV; rw [List.length_map, Array.length_toList]) fun j x w h1 h2 => ?_
    obtain ⟨c, u, ec, rfl⟩ := hacc.2 j w (by rw [← Array.getElem?_toList]; exact h2)
    unfold signsV at h1
    rw [List.getElem?_map, Array.getElem?_toList, ec] at h1
    cases h1
    exact ⟨u, rfl⟩
  · exact hS
section
variable {X : Cx} {W : WX} {e : Expr} {pos : Pos}
def listN : List D → (List D → Prop) → Prop
  | [.str z], k => z.length ≤ sizeLine ∧ k (signsD z)
  | [.lst ds], k => k ds
  | [.rol ds], k => k ds
  | [.tup ds], k => k ds
  | _, _ => False
def dListN (t : DX (List D)) : DX (List D) := fun ρ z R RX => t ρ z (fun ds ρ1 z1 => listN ds fun es => R es ρ1 z1) RX
theorem dn_list {x : Str} {p : Pos} {t : DX (List D)} (hc : X.calm = true) (hg : Gl X x) (hm : X.mg x = none) (hv : bootBuiltins x = some (.type "list")) (ha : DA X W [e] t)
    (hn : x ≠ "__name__" := by decide) (hdb : (x == ("__debug__" : Str)) = false := by decide) (he : starEach [e] X.env = (false, eval e X.env) :: starEach [] X.env := by rfl)
    (hpl : (backTo pos (starEach [] X.env)).any (·.1) = false := by rfl) : DN X W (.Call (.Name x p) [e] [] pos) (dListN t) :=
  pe_to (pe_callTy (call_list_of.or (call_list_txt hc)) hg hm hv ha hn hdb he hpl) fun σ H Q ⟨M, ρ, z, O, R, RX, w, h, x, k⟩ => by
  refine ⟨M, ρ, z, O, _, RX, w, h, x, fun ds ρ1 z1 vs H1 O1 hd g1 w1 r1 => ?_⟩
  unfold listN at hd
  split at hd
  · obtain ⟨v, rfl, r2⟩ := r1.one
    obtain rfl := r2.str
    exact .inr ⟨_, rfl, hd.1, fun p hp => k _ ρ1 z1 p _ H1 _ O1 hd.2 g1 w1 (same_new hp) hp upd_same (reps_signs _)⟩
  · obtain ⟨v, rfl, r2⟩ := r1.one
    obtain ⟨a, vs, rfl, q1, q2⟩ := r2.lst
    exact .inl ⟨a, vs, rfl, .inl (SqL.of q1), fun p hp => k _ ρ1 z1 p _ H1 _ O1 hd g1 w1 (same_new hp) hp upd_same q2⟩
  · obtain ⟨v, rfl, r2⟩ := r1.one
    obtain ⟨a, vs, rfl, q1, q2⟩ := r2.rol
    exact .inl ⟨a, vs, rfl, .inl q1, fun p hp => k _ ρ1 z1 p _ H1 _ O1 hd g1 w1 (same_new hp) hp upd_same q2⟩
  · obtain ⟨v, rfl, r2⟩ := r1.one
    obtain ⟨a, vs, rfl, q1, q2⟩ := r2.tup
    exact .inl ⟨a, vs, rfl, .inr q1, fun p hp => k _ ρ1 z1 p _ H1 _ O1 hd g1 w1 (same_new hp) hp upd_same q2⟩
  · exact hd.elim
theorem ap_dListN (t : DX (List D)) (s0 : Sl) (ρ0 : List Sl) (z : Z) (R : List D → List Sl → Z → Prop) (RX : KX) : dListN t (s0 :: ρ0) z R RX = t (s0 :: ρ0) z (fun ds ρ1 z1 => listN ds fun es => R es ρ1 z1) RX := rfl
theorem e_listN1 (z : Str) (k : List D → Prop) : listN [.str z] k = (z.length ≤ sizeLine ∧ k (signsD z)) := rfl
theorem e_listN2 (ds : List D) (k : List D → Prop) : listN [.lst ds] k = k ds := rfl
theorem e_listN3 (ds : List D) (k : List D → Prop) : listN [.rol ds] k = k ds := rfl
theorem e_listN4 (ds : List D) (k : List D → Prop) : listN [.tup ds] k = k ds := rfl
end
/-! ### a pair: a list of one's own, and a value -/
section
variable {X : Cx} {W : WX} {a b : Expr} {pos : Pos}
theorem XOk.hide {K : PySem.W.Frag} {M : Addr → Prop} {H1 H1' : Hp} {z1 : Z} {O1 : Nat → Option Addr} {p1 : Addr} {RX : KX} (k : XOk K M W H1 z1 O1 RX) (n1 : H1 p1 = none) (s1 : Same H1 H1') : XOk K (Lay.more M p1) W H1' z1 O1 RX := fun C ns ds ρ' z' od H' O' σ' hx g w' ex => by
  have lt : ∀ a, H1' a = none → H1 a = none := fun a q => Classical.byContradiction fun n => by
    cases e : H1 a with
    | none => exact n e
    | some u => rw [s1 a u e] at q; cases q
  have g0 : Go M H1 z1 O1 H' z' O' := ⟨fun a u h n => g.st a u (s1 a u h) fun q => q.more.elim n fun e => (by rw [e, n1] at h; cases h), fun a u m h => g.km a u (.inl m) (s1 a u h), fun a h => by
    rcases g.nw a h.less with q | q
    · rcases q.more with q | q
      · exact .inl q
      · exact .inr (by rw [q]; exact n1)
    · exact .inr (lt a q), fun a h => (g.zp a h).imp id (lt a), fun a h => g.al a fun q => h (lt a q)⟩
  have wl : Wd K M H' σ' ρ' z' O' := ⟨w'.len, fun a h => w'.al a (.inl h), w'.pot, fun a h m => w'.pm a h (.inl m), fun i a h => let ⟨q1, q2, q3, q4⟩ := w'.ow i a h; ⟨fun m => q1 (.inl m), q2, q3, q4⟩, fun i s h => (w'.sl i s h).mono ⟨fun a o q _ => q, fun a q => .inl q.less⟩ fun _ _ _ q => q, w'.out⟩
  exact k C ns ds ρ' z' od H' O' σ' hx g0 wl (ex.mono ⟨fun a o q _ => q, fun a q => .inl q.less⟩)
def dPairON (i j : Nat) (t1 : DX (List D)) (t2 : DX D) : DTS := fun R ρ z => t1 ρ z (fun xs ρ1 z1 => t2 ρ1 z1 (fun d ρ2 z2 => i < ρ2.length ∧ R.nx ((ρ2.set i (.own xs)).set j (.val d)) z2) R.ex) R.ex
theorem ds_pairON {i j : Nat} {x y : Str} {t1 : DX (List D)} {t2 : DX D} {px py pt : Pos} {kt k2 pt2} (hc : X.calm = true) (hN : X.N.Nodup) (hi : X.N[i]? = some x) (hj : X.N[j]? = some y) (hij : i ≠ j)
    (hx : X.env.scope.names.lookup x = some .local) (hy : X.env.scope.names.lookup y = some .local) (h1 : DN X W a t1) (h2 : DE X W b t2)
    (hw : swappedStores [.Tuple [.Name x px, .Name y py] kt pt] (.Tuple [a, b] k2 pt2) X.env = pure (some [x, y]))
    (hs : swapsWithSole [.Tuple [.Name x px, .Name y py] kt pt] (.Tuple [a, b] k2 pt2) pos.line X.env = pure false := by rfl)
    (he : starEach [a, b] X.env = (false, eval a X.env) :: starEach [b] X.env := by rfl) (he2 : starEach [b] X.env = (false, eval b X.env) :: starEach [] X.env := by rfl) :
    DS X W (.Assign [.Tuple [.Name x px, .Name y py] kt pt] (.Tuple [a, b] k2 pt2) pos) (dPairON i j t1 t2) := ps_to (ps_par hc hN hi hj hij hx hy (pa_cons h1 (pa_cons h2 pa_nil he2) he) hw hs) fun D σ H ⟨M, ρ, z, O, R, w, h, k⟩ => by
  refine ⟨M, ρ, z, O, _, R.ex, w, h, k.ex, fun xs ρ1 z1 p1 vs1 H1 H1' O1 h1 g1 w1 s1 n1 e1 r1 => ?_⟩
  have np1 : ¬ M p1 := fun m => w1.al p1 m n1
  obtain ⟨wh, gh⟩ := w1.hideS n1 s1 (by rw [e1]; exact Option.some_ne_none _)
  have rh : Reps X.K (NN (Lay.more M p1) z1 O1) H1' xs vs1 := Reps.mono ⟨fun a u h _ => s1 a u h, fun a h => by
    rcases h.more with q | q
    · exact .inl q
    · exact .inr (by rw [q]; exact n1)⟩ _ _ r1
  have lt : ∀ a, H1' a = none → H1 a = none := fun a q => Classical.byContradiction fun n => by
    cases e : H1 a with
    | none => exact n e
    | some u => rw [s1 a u e] at q; cases q
  have kx : XOk X.K M W H1 z1 O1 R.ex := fun C ns ds ρ' z' od H' O' σ' hx g w' ex => k.ex C ns ds ρ' z' od H' O' σ' hx (g1.toGo.trans g) w' ex
  refine ⟨Lay.more M p1, ρ1, z1, O1, _, R.ex, wh, h1, kx.hide n1 s1, fun d ρ2 z2 v2 H2 O2 ⟨li, h2⟩ g2 w2 r2 => ?_⟩
  have ep1 : H2 p1 = some (.lst vs1) := g2.km p1 _ (.inr rfl) e1
  have wi := w2.unhide np1 i li ep1 (Reps.mono g2.ext _ _ rh)
  have r2' : Rep X.K (NN M z2 fun j => if j = i then some p1 else O2 j) H2 d v2 := Rep.mono ⟨fun a o h _ => h, fun a h => by
    rcases h.on with q | q
    · exact .inl q.less
    · exact .inl (.inl (.inr q))⟩ _ _ r2
  refine ⟨_, _, rfl, k.nx _ z2 _ H2 _ h2 ?_ (wi.set j r2')⟩
  refine g1.toGo.trans (Go.trans (H1 := H2) ⟨fun a u h n => g2.st a u (s1 a u h) fun q => q.more.elim n fun e => (by rw [e, n1] at h; cases h), fun a u m h => g2.km a u (.inl m) (s1 a u h), fun a h => ?_, fun a h => (g2.zp a h).imp id (lt a), fun a h => g2.al a (gh.al a h)⟩ GoE.off.toGo)
  rcases h.on with q | q
  · rcases g2.nw a q.less with q | q
    · rcases q.more with q | q
      · exact .inl q
      · exact .inr (by rw [q]; exact n1)
    · exact .inr (lt a q)
  · exact .inr (by rw [q]; exact n1)
theorem ap_dPairON (i j : Nat) (t1 : DX (List D)) (t2 : DX D) (R : DEnds) (s0 : Sl) (ρ0 : List Sl) (z : Z) : dPairON i j t1 t2 R (s0 :: ρ0) z = t1 (s0 :: ρ0) z (fun xs ρ1 z1 => t2 ρ1 z1 (fun d ρ2 z2 => i < ρ2.length ∧ R.nx ((ρ2.set i (.own xs)).set j (.val d)) z2) R.ex) R.ex := rfl
end
/-! ### defs with defaults -/
abbrev dD (st : Stmt) (m : Str) (q : Str) (dvs : List V) (K : PySem.W.Frag) : Addr → FuncData → Prop := fun f fd => FunD K m q (defArgs st) (defBody st) (defScope st) dvs [] f fd
section
variable {P : Program} {w : World} {K : PySem.W.Frag} {mg : Str → Option Value} {base : Heap} {k : Nat} {f : Addr} {fd : FuncData} {ps : List Str} {x qual : Str} {st : Stmt} {N : List Str} {dvs : List V}
theorem gbodyD2 {sp : Sp} {CY : CXT} (F : FunD K x qual (defArgs st) (defBody st) (defScope st) dvs [] f fd) (S : FnScope N ps (defScope st))
    (ln : ∀ vs H Q E, sp vs H Q E → vs.length = ps.length)
    (hb : ∀ (cdv : Value) (A : Around) (outer : List Env) (s : Shared) (H : Hp) (vs : List V) (Q : VK) (E : XK),
      Room k (A.deeper (envOfC qual (defScope st) s.heap.objs.size f cdv)) →
      (A.deeper (envOfC qual (defScope st) s.heap.objs.size f cdv)).guards = some [] → sp vs H Q E →
      ∃ t, PSs (cxOf CY P w K mg base N qual (defScope st) f cdv A outer s H E) (defBody st) t ∧
        t { nx := fun _ H' => Q .non H', rt := Q } (start N vs) H) : FnG P w K mg base CY (k + 1) f fd ps sp := by
  obtain ⟨oc, od, dV, kV, doc, pm, an, cdv, ct, osl, rfl, lk, hcd, _, _⟩ := F.ex
  exact fg_of lk hcd S ln fun A outer s H vs Q E hr hg hsp => hb cdv A outer s H vs Q E hr hg hsp
theorem dbodyXD {sp : PSp} (F : FunD K x qual (defArgs st) (defBody st) (defScope st) dvs [] f fd) (S : FnScope N ps (defScope st)) (ln : ∀ ds z R RX, sp ds z R RX → ds.length = ps.length)
    (hb : ∀ (cdv : Value) (A : Around) (outer : List Env) (s : Shared) (H : Hp) (E : XK), Room k (A.deeper (envOfC qual (defScope st) s.heap.objs.size f cdv)) → (A.deeper (envOfC qual (defScope st) s.heap.objs.size f cdv)).guards = some [] →
      ∃ t, DSs (cxOf (L2.CX P w) P w K mg base N qual (defScope st) f cdv A outer s H E) (fun cls d _ H => E cls d H) (defBody st) t ∧ ∀ ds z R RX, sp ds z R RX → t { nx := fun _ z' => R .non z', rt := R, ex := fun C ns es _ z' => RX C ns es z' } (startD N ds) z) :
    FnG P w K mg base (L2.CX P w) (k + 1) f fd ps (lift K sp) := by
  refine gbodyD2 F S (fun vs H Q E h => ?_) fun cdv A outer s H vs Q E hr hg h => ?_
  · unfold lift at h
    obtain ⟨M, ds, z, R, RX, _, _, _, r, h, _⟩ := h
    rw [← r.length]; exact ln _ _ _ _ h
  · obtain ⟨t, ht, hh⟩ := hb cdv A outer s H E hr hg
    refine ⟨_, ht, ?_⟩
    unfold lift at h
    obtain ⟨M, ds, z, R, RX, al, pot, pm, r, h, k1, k2⟩ := h
    refine ⟨M, startD N ds, z, O0, _, Wd.beg al pot pm r, hh ds z R RX h, ?_⟩
    refine ⟨fun ρ' z' σ' H' O' h g w => k1 _ z' _ H' h (g.finOf w) .n, fun _ _ _ _ _ h => h.elim, fun _ _ _ _ _ h => h.elim, fun d ρ' z' v σ' H' O' h g w r => k1 d z' v H' h (g.finOf w) (Rep.mono nn0 _ _ r), fun C ns es ρ' z' od H' O' σ' h g w ex => k2 C ns es z' od H' h (g.finOf w) (ex.mono nn0)⟩
/-- a def of the top with defaults, as its callers see it -/
structure CalleeD (P : Program) (w : World) (K : PySem.W.Frag) (mg : Str → Option Value) (base : Heap) (CX : CXT) (k : Nat) (x : Str) (D' : Addr → FuncData → Prop) (ps : List Str) (sp : Sp) : Prop where
  ex : ∃ (f : Addr) (fd : FuncData), mg x = some (.ref f) ∧ D' f fd ∧ PySem.W.keepIn K (.ref f) = true ∧ Binds K fd ps [] ∧ FnG P w K mg base CX k f fd ps sp
end
section
variable {X : Cx} {W : WX} {CX : CXT} {j k n : Nat} {ps ks : List Str} {x : Str} {p pos : Pos} {e : Expr} {es : List Expr} {kws : List Keyword} {D' : Addr → FuncData → Prop}
  {gV : List V → List V → List V} {gD : List D → List D → List D}
theorem CalleeD.kwS {sp : Sp} {E : L2.St → XK} {t tk : TA} (C : CalleeD X.prog X.w X.K X.mg X.base CX k x D' ps sp) (hb : ∀ (f : Addr) (fd : FuncData), D' f fd → ∃ g, KwB X.K fd ps n ks g gV) (hG : Gl X x) (hr : Room j X.A) (hg : X.A.guards = some [])
    (hx : ∀ σ, PassesAt CX X σ (E σ)) (ha : PA X (e :: es) t) (hkw : PK X kws tk) (hj : k ≤ j)
    (hall : (backToKw pos (keywordEach kws X.env)).all (·.1.isSome) = true) (hks : (backToKw pos (keywordEach kws X.env)).filterMap (·.1) = ks)
    (hdb : (x == ("__debug__" : Str)) = false) (he : starEach (e :: es) X.env = (false, eval e X.env) :: starEach es X.env)
    (hpl : ((backTo pos (starEach (e :: es) X.env)).any (·.1) || (backToKw pos (keywordEach kws X.env)).any (·.1.isNone)) = false) :
    PE X (.Call (.Name x p) (e :: es) kws pos) (tKwS n ks.length sp gV E t tk) := by
  obtain ⟨f, fd, hm, F, kp, b, G⟩ := C.ex
  obtain ⟨g, hb⟩ := hb f fd F
  refine ⟨fun pins s σ H Q I h => wpAny_Call_Name_kw (ld_glob I hG hm (PySem.W.callWith_KW (h₀ := X.base) I.ok.mod.kin kp hall (thn (ha.run pos pins s σ H _ I h) fun us s1 ⟨vs, H1, I1, r, q⟩ => thn (hkw.run pos pins s1 σ H1 _ I1 q) fun ws s2 ⟨zs, H2, I2, rz, l1, l2, q2⟩ => ⟨I2.kIn, ?_⟩) hpl he) hdb)⟩
  rw [hks]
  exact gcallS (args := ⟨us, ks.zip ws⟩) G (hr.mono hj) hg (hb.to s2 us ws I2.kIn (by rw [← r.length]; exact l1) (by rw [← rz.length]; exact l2)) (hx σ) I2 (hb.rel vs zs us ws l1 l2 r rz) q2
theorem CalleeD.kw0S {sp : Sp} {E : L2.St → XK} {tk : TA} (C : CalleeD X.prog X.w X.K X.mg X.base CX k x D' ps sp) (hb : ∀ (f : Addr) (fd : FuncData), D' f fd → ∃ g, KwB X.K fd ps 0 ks g gV) (hG : Gl X x) (hr : Room j X.A) (hg : X.A.guards = some [])
    (hx : ∀ σ, PassesAt CX X σ (E σ)) (hkw : PK X kws tk) (hj : k ≤ j)
    (hall : (backToKw pos (keywordEach kws X.env)).all (·.1.isSome) = true) (hks : (backToKw pos (keywordEach kws X.env)).filterMap (·.1) = ks)
    (hdb : (x == ("__debug__" : Str)) = false)
    (hpl : ((backTo pos (starEach [] X.env)).any (·.1) || (backToKw pos (keywordEach kws X.env)).any (·.1.isNone)) = false) :
    PE X (.Call (.Name x p) [] kws pos) (tKwS 0 ks.length sp gV E tNil tk) := by
  obtain ⟨f, fd, hm, F, kp, b, G⟩ := C.ex
  obtain ⟨g, hb⟩ := hb f fd F
  refine ⟨fun pins s σ H Q I h => wpAny_Call_Name_kw (ld_glob I hG hm (PySem.W.callWith_KW0 (h₀ := X.base) I.ok.mod.kin kp hall (thn (hkw.run pos pins s σ H _ I h) fun ws s2 ⟨zs, H2, I2, rz, l1, l2, q2⟩ => ⟨I2.kIn, ?_⟩) hpl) hdb)⟩
  rw [hks]
  exact gcallS (args := ⟨[], ks.zip ws⟩) G (hr.mono hj) hg (hb.to s2 [] ws I2.kIn rfl (by rw [← rz.length]; exact l2)) (hx σ) I2 (hb.rel [] zs [] ws l1 l2 .nil rz) q2
variable {sp : PSp} {t tk : DX (List D)}
theorem CalleeD.dG {E : L2.St → XK} (C : CalleeD X.prog X.w X.K X.mg X.base CX k x D' ps (lift X.K sp)) (kd : KwD n ks.length gV gD) (hb : ∀ (f : Addr) (fd : FuncData), D' f fd → ∃ g, KwB X.K fd ps n ks g gV) (hG : Gl X x) (hr : Room j X.A) (hg : X.A.guards = some [])
    (hx : ∀ σ, PassesAt CX X σ (E σ)) (ha : DAs X W (e :: es) t) (hkw : DKw X W kws tk) (hj : k ≤ j := by decide) (hall : (backToKw pos (keywordEach kws X.env)).all (·.1.isSome) = true := by rfl) (hks : (backToKw pos (keywordEach kws X.env)).filterMap (·.1) = ks := by rfl)
    (hdb : (x == ("__debug__" : Str)) = false := by decide) (he : starEach (e :: es) X.env = (false, eval e X.env) :: starEach es X.env := by rfl)
    (hpl : ((backTo pos (starEach (e :: es) X.env)).any (·.1) || (backToKw pos (keywordEach kws X.env)).any (·.1.isNone)) = false := by rfl) :
    DE X W (.Call (.Name x p) (e :: es) kws pos) (dCallKw0 n ks.length gD sp t tk) := pe_to (C.kwS hb hG hr hg hx ha hkw hj hall hks hdb he hpl) fun _ _ _ h => UG.callKw0S kd h
theorem CalleeD.dGE (C : CalleeD X.prog X.w X.K X.mg X.base CX k x D' ps (lift X.K sp)) (kd : KwD n ks.length gV gD) (hb : ∀ (f : Addr) (fd : FuncData), D' f fd → ∃ g, KwB X.K fd ps n ks g gV) (hG : Gl X x) (hr : Room j X.A) (hg : X.A.guards = some [])
    (hx : ∀ σ, PassesAt CX X σ (WE W σ)) (ha : DAs X W (e :: es) t) (hkw : DKw X W kws tk) (hj : k ≤ j := by decide) (hall : (backToKw pos (keywordEach kws X.env)).all (·.1.isSome) = true := by rfl) (hks : (backToKw pos (keywordEach kws X.env)).filterMap (·.1) = ks := by rfl)
    (hdb : (x == ("__debug__" : Str)) = false := by decide) (he : starEach (e :: es) X.env = (false, eval e X.env) :: starEach es X.env := by rfl)
    (hpl : ((backTo pos (starEach (e :: es) X.env)).any (·.1) || (backToKw pos (keywordEach kws X.env)).any (·.1.isNone)) = false := by rfl) :
    DE X W (.Call (.Name x p) (e :: es) kws pos) (dCallKw n ks.length gD sp t tk) := pe_to (C.kwS hb hG hr hg hx ha hkw hj hall hks hdb he hpl) fun _ _ _ h => UG.callKwS kd h
theorem CalleeD.dG0 {E : L2.St → XK} (C : CalleeD X.prog X.w X.K X.mg X.base CX k x D' ps (lift X.K sp)) (kd : KwD 0 ks.length gV gD) (hb : ∀ (f : Addr) (fd : FuncData), D' f fd → ∃ g, KwB X.K fd ps 0 ks g gV) (hG : Gl X x) (hr : Room j X.A) (hg : X.A.guards = some [])
    (hx : ∀ σ, PassesAt CX X σ (E σ)) (hkw : DKw X W kws tk) (hj : k ≤ j := by decide) (hall : (backToKw pos (keywordEach kws X.env)).all (·.1.isSome) = true := by rfl) (hks : (backToKw pos (keywordEach kws X.env)).filterMap (·.1) = ks := by rfl)
    (hdb : (x == ("__debug__" : Str)) = false := by decide) (hpl : ((backTo pos (starEach [] X.env)).any (·.1) || (backToKw pos (keywordEach kws X.env)).any (·.1.isNone)) = false := by rfl) :
    DE X W (.Call (.Name x p) [] kws pos) (dCallKw0 0 ks.length gD sp dNil tk) := pe_to (C.kw0S hb hG hr hg hx hkw hj hall hks hdb hpl) fun _ _ _ h => tKwS_nil (UG.callKw0S kd h)
theorem CalleeD.dG0E (C : CalleeD X.prog X.w X.K X.mg X.base CX k x D' ps (lift X.K sp)) (kd : KwD 0 ks.length gV gD) (hb : ∀ (f : Addr) (fd : FuncData), D' f fd → ∃ g, KwB X.K fd ps 0 ks g gV) (hG : Gl X x) (hr : Room j X.A) (hg : X.A.guards = some [])
    (hx : ∀ σ, PassesAt CX X σ (WE W σ)) (hkw : DKw X W kws tk) (hj : k ≤ j := by decide) (hall : (backToKw pos (keywordEach kws X.env)).all (·.1.isSome) = true := by rfl) (hks : (backToKw pos (keywordEach kws X.env)).filterMap (·.1) = ks := by rfl)
    (hdb : (x == ("__debug__" : Str)) = false := by decide) (hpl : ((backTo pos (starEach [] X.env)).any (·.1) || (backToKw pos (keywordEach kws X.env)).any (·.1.isNone)) = false := by rfl) :
    DE X W (.Call (.Name x p) [] kws pos) (dCallKw 0 ks.length gD sp dNil tk) := pe_to (C.kw0S hb hG hr hg hx hkw hj hall hks hdb hpl) fun _ _ _ h => tKwS_nil (UG.callKwS kd h)
end
end Lay

set_option Elab.async false
set_option linter.all false
set_option maxRecDepth 100000
set_option maxHeartbeats 2000000
namespace Lay
open PySem PySem.Spec PyProof.Rows L2 SeqAt
open AutoSeq1 (wpAny_loadPart')
open MeetsSeq MeetsSeq2 MeetsSeq3 SeqRoads2
/-! ### x in t, t a tuple with own instances -/
section
variable {prog : Program} {w : World} {A : Around} {E : Value → Shared → Prop} {s : Shared}
theorem thenTold {B : Around} {t : Sem PySem.Fin} {Q : Value → Shared → Prop} (h : wpAny (model prog w) B t (fun f s' => ∃ v, f = .done (.ret v) ∧ Q v s') E s) :
    wpAny (model prog w) B t (fun f s' => match f with | .done f => wants Q E (.ok f) s' | .again c' => c'.quiet = true ∧ codeAny (model prog w) A c' (wants Q E) s') (fun e s' => wants Q E (.error e) s') s :=
  wpAny_mono h (fun f s' ⟨v, e, q⟩ => by rw [e]; exact q) fun _ _ x => x
theorem tup_inG {l : Addr} {xs : Array Value} {x : Value} {es : List Bool} {G : Shared → Prop} {Q : Bool → Shared → Prop} (hl : s.heap.IsTuple l xs) (h0 : G s)
    (he : Paired (Answers prog w A.in1 E G) es (xs.toList.map fun y => (y, x))) (k : ∀ s', G s' → Q (es.any id) s') : wpAny (model prog w) A (contains (.ref l) x) Q E s := by
  obtain ⟨n1, d1, c1, o1⟩ := tup_obj hl
  have t1 : s.TypeIs (.ref l) "tuple" := ⟨_, o1, rfl⟩
  refine wpAny_contains_slot t1 F.slot_tuple_contains (wpAny_call (codeAny_call_builtin F.slot_tuple_contains.plain F.entry_tuple_contains (F.slot_tuple_contains.check _ _ _ _ _ _ _ _ t1 (F.args_tuple_contains_2 _ _) ?body)))
  refine thenTold ?_
  have told : ∀ es' : List Bool, (∀ s', G s' → Q (es'.any id) s') → ∀ s', G s' → wpAny (model prog w) A (truthy (.bool (es'.any id))) Q E s' := fun es' q s' g => wpAny_truthy_bool (q s' g)
  cases s
  wp_walk using wpAny_loadPart' o1, wpAny_forIn_array _ (fun rest st s' => st.1 = none ∧ G s' ∧ ∃ es', Paired (Answers prog w A.in1 E G) es' (rest.map fun y => (y, x)) ∧ ∀ s', G s' → Q (es'.any id) s') _
  case turn =>
    rintro y rest st s' ⟨_, g, es', hp, q⟩
    match es', hp with
    | a :: as, .cons ha hs =>
      refine wpAny_bind (ha s' g _ fun s2 g2 => ?_)
      cases a
      · wp_walk
        exact ⟨rfl, g2, as, hs, by simpa using q⟩
      · wp_walk
        exact ⟨_, rfl, by simpa using told _ q s2 g2⟩
  case fin =>
    rintro ⟨r1, r2⟩ s' ⟨e, g, es', hp, q⟩
    cases hp
    cases e
    wp_walk
    exact ⟨_, rfl, by simpa using told _ q s' g⟩
  case h => exact ⟨rfl, h0, es, he, k⟩
end
section
variable {X : Cx} {j k : Nat} {C : Addr} {D' : Addr → FuncData → Prop} {ps : List Str} {sp : PSp} {W : WX} {a b : Expr} {pos : Pos}
def rInO (K : PySem.W.Frag) (C : Addr) (sp : Sp) (n : Nat) (f : Bool → Bool) : R2 := fun x y H Q => ∃ (G : Hp → Prop) (e : Nat → Bool) (t : Addr) (ws : List V), y = .ref t ∧ SqT K H t ws ∧ G H ∧ (TupInj K H → ∀ (j : Nat) (v : V), ws[j]? = some v → HEq' K C sp G n v x (e j)) ∧ ∀ H', G H' → Q (.bl (f ((List.range ws.length).any e))) H'
theorem Method.inO {sp : Sp} {n : Nat} {f : Bool → Bool} (M : Method X.prog X.w X.K X.mg X.base CX0 k C "__eq__" D' ps sp) (hr : Room j X.A) (hg : X.A.guards = some []) (hj : k + n + 1 ≤ j) {op : CmpOp} (hop : ∀ x c, compareOp op x c = (do return .bool (f (← contains c x)))) : OpR X (compareOp op) (rInO X.K C sp n f) := by
  intro pins s σ H x y v u Q I rx ry h
  obtain ⟨G, e, t, ws, rfl, p1, hG, he, hQ⟩ := h
  have T := Lay.Inv.tupInj I
  replace he := he T
  obtain rfl : u = Value.ref t := ry
  obtain ⟨its, rs, hl, _⟩ := I.tuple p1
  have l1 := rs.length
  have hr' := hr.mono hj
  rw [hop]
  refine wpAny_bind (tup_inG (es := (List.range its.length).map e) (G := fun s => ∃ H, Inv X pins σ H s ∧ G H) hl ⟨H, I, hG⟩ (paired_at (by simp) fun i a p ea ep => ?_) fun s' ⟨H', I', hG'⟩ => ?_)
  · have hi := lt_of_get ea
    rw [List.length_map, List.length_range] at hi
    rw [List.getElem?_map, List.getElem?_range hi] at ea
    cases ea
    rw [List.getElem?_map] at ep
    obtain ⟨y, ey, rfl⟩ := Option.map_eq_some_iff.mp ep
    have ey : its[i]? = some y := ey
    obtain ⟨u, f1, r1⟩ := rs.get (i := i) (x := ws[i]'(by omega)) (List.getElem?_eq_getElem _)
    rw [ey] at f1
    cases f1
    exact fun s ⟨H', I', hG'⟩ Q hq => M.item (he i _ (List.getElem?_eq_getElem _)) hr'.in1 hg (fun H s I => I.env0.in1) I' hG' r1 rx fun H2 s2 I2 G2 => hq s2 ⟨H2, I2, G2⟩
  · have := hQ H' hG'
    refine wpAny_pure ⟨_, H', I', ?_, this⟩
    rw [l1]
    simp [L2.RelV, List.any_map]
/-- x in t, x not in t -/
def dInO (n : Nat) (C : Addr) (sp : PSp) (f : Bool → Bool) (ta tb : DX D) : DX D := fun ρ z R RX => ta ρ z (fun d1 ρ1 z1 => tb ρ1 z1 (fun d2 ρ2 z2 => ∃ (ys : List D) (e : Nat → Bool), d2 = .tup ys ∧ (∀ (j : Nat) (y : D), ys[j]? = some y → EqI C sp z2 n y d1 (e j)) ∧ R (.bl (f ((List.range ys.length).any e))) ρ2 z2) RX) RX
theorem ap_dInO (n : Nat) (C : Addr) (sp : PSp) (f : Bool → Bool) (ta tb : DX D) (s0 : Sl) (ρ0 : List Sl) (z : Z) (R : D → List Sl → Z → Prop) (RX : KX) : dInO n C sp f ta tb (s0 :: ρ0) z R RX = (ta (s0 :: ρ0) z (fun d1 ρ1 z1 => tb ρ1 z1 (fun d2 ρ2 z2 => ∃ (ys : List D) (e : Nat → Bool), d2 = .tup ys ∧ (∀ (j : Nat) (y : D), ys[j]? = some y → EqI C sp z2 n y d1 (e j)) ∧ R (.bl (f ((List.range ys.length).any e))) ρ2 z2) RX) RX) := rfl
theorem UG.inO {K : PySem.W.Frag} {n : Nat} {f : Bool → Bool} {ta tb : DX D} {σ : L2.St} {H : Hp} {Q : VK} (h : UG K W (relE K) (dInO n C sp f ta tb) σ H Q) :
    tOp (rInO K C (lift K sp) n f) (UG K W (relE K) ta) (UG K W (relE K) tb) σ H Q := by
  obtain ⟨M, ρ, z, O, R, RX, w, h, x, k⟩ := h
  refine ⟨M, ρ, z, O, _, RX, w, h, x, fun d1 ρ1 z1 v1 H1 O1 h1 g1 w1 r1 => ?_⟩
  refine ⟨M, ρ1, z1, O1, _, RX, w1, h1, x.after g1.toGo, fun d2 ρ2 z2 v2 H2 O2 ⟨ys, e, e2, he, hR⟩ g2 w2 r2 => ?_⟩
  subst e2
  have r1' := Rep.mono g2.ext _ _ r1
  have r2' := r2
  rw [relE, Rep] at r2'
  obtain ⟨t, ws, rfl, p1, q1⟩ := r2'
  rw [← Reps.len q1] at hR
  refine ⟨fun H' => GoE M H2 z2 O2 H' z2 O2 ∧ Wd K M H' σ ρ2 z2 O2, e, t, ws, rfl, p1.sq, ⟨GoE.refl, w2⟩, fun T j v hv => ?_, fun H' ⟨g, w'⟩ => k _ ρ2 z2 _ H' O2 hR (g1.trans (g2.trans g)) w' .b⟩
  have hj1 := lt_of_get hv
  rw [Reps.len q1] at hj1
  obtain ⟨v', ev, rv⟩ := q1.get (List.getElem?_eq_getElem hj1)
  rw [hv] at ev; cases ev
  exact (he j _ (List.getElem?_eq_getElem hj1)).toH w2 T rv r1'
theorem Method.dIn {n : Nat} {ta tb : DX D} (M : Method X.prog X.w X.K X.mg X.base CX0 k C "__eq__" D' ps (lift X.K sp)) (hr : Room j X.A) (hg : X.A.guards = some []) (ha : DE X W a ta) (hb : DE X W b tb) (hmk : behindInMarks CmpOp.In b = false := by rfl) (hj : k + n + 1 ≤ j := by decide) : DE X W (.Compare a [.In] [b] pos) (dInO n C sp id ta tb) :=
  pe_to (pe_cmpR (Method.inO (op := .In) M hr hg hj fun _ _ => rfl) ha hb hmk) fun _ _ _ h => h.inO
theorem Method.dNotIn {n : Nat} {ta tb : DX D} (M : Method X.prog X.w X.K X.mg X.base CX0 k C "__eq__" D' ps (lift X.K sp)) (hr : Room j X.A) (hg : X.A.guards = some []) (ha : DE X W a ta) (hb : DE X W b tb) (hmk : behindInMarks CmpOp.NotIn b = false := by rfl) (hj : k + n + 1 ≤ j := by decide) : DE X W (.Compare a [.NotIn] [b] pos) (dInO n C sp not ta tb) :=
  pe_to (pe_cmpR (Method.inO (op := .NotIn) M hr hg hj fun _ _ => rfl) ha hb hmk) fun _ _ _ h => h.inO
theorem Method.tIn {n : Nat} {ta tb : DX D} (M : Method X.prog X.w X.K X.mg X.base CX0 k C "__eq__" D' ps (lift X.K sp)) (hr : Room j X.A) (hg : X.A.guards = some []) (ha : DE X W a ta) (hb : DE X W b tb) (hmk : behindInMarks CmpOp.In b = false := by rfl) (hj : k + n + 1 ≤ j := by decide) : DT X W (.Compare a [.In] [b] pos) (dTest (dInO n C sp id ta tb)) :=
  pt_to (pt_cmpR (Method.inO (op := .In) M hr hg hj fun _ _ => rfl) ha hb hmk) fun _ _ _ h => h.test.inO
theorem Method.tNotIn {n : Nat} {ta tb : DX D} (M : Method X.prog X.w X.K X.mg X.base CX0 k C "__eq__" D' ps (lift X.K sp)) (hr : Room j X.A) (hg : X.A.guards = some []) (ha : DE X W a ta) (hb : DE X W b tb) (hmk : behindInMarks CmpOp.NotIn b = false := by rfl) (hj : k + n + 1 ≤ j := by decide) : DT X W (.Compare a [.NotIn] [b] pos) (dTest (dInO n C sp not ta tb)) :=
  pt_to (pt_cmpR (Method.inO (op := .NotIn) M hr hg hj fun _ _ => rfl) ha hb hmk) fun _ _ _ h => h.test.inO
end
end Lay

set_option Elab.async false
set_option linter.all false
set_option maxRecDepth 100000
set_option maxHeartbeats 2000000
namespace Lay
open PySem PySem.Spec PyProof.Rows L2
/-! ### y = x.pop(e), x a list of one's own -/
theorem seqIx_nat {m n : Nat} (h : m < n) : seqIndex? (m : Int) n = some m := by
  have h1 : (m : Int) < n := by omega
  have h2 : ¬ (m : Int) < 0 := by omega
  unfold seqIndex?
  simp [h1, h2]
theorem Reps.eraseIdx {K : PySem.W.Frag} {N : Addr → Prop} {H : Hp} : ∀ {ds : List D} {vs : List V} (m : Nat), Reps K N H ds vs → Reps K N H (ds.eraseIdx m) (vs.eraseIdx m)
  | [], vs, m, r => by rw [Reps] at r; subst r; exact .nil
  | d :: ds, vs, 0, r => by
    rw [Reps] at r
    obtain ⟨v, q, rfl, h, r⟩ := r
    exact r
  | d :: ds, vs, m + 1, r => by
    rw [Reps] at r
    obtain ⟨v, q, rfl, h, r⟩ := r
    exact .cons h (Reps.eraseIdx m r)
section
variable {X : Cx} {W : WX} {e : Expr} {pos : Pos}
def popD (s : Option Sl) (d : D) (k : D → List D → Prop) : Prop := match s, d with
  | some (.own ds), .int n => ∃ (m : Nat) (v : D), n = (m : Nat) ∧ m ≤ 1000000000 ∧ ds[m]? = some v ∧ k v (ds.eraseIdx m)
  | _, _ => False
def dPopSet (i j : Nat) (te : DX D) : DTS := fun R ρ z => ∃ ds0, ρ[i]? = some (.own ds0) ∧ te ρ z (fun d ρ' z' => popD (ρ'[i]?) d fun v es => R.nx ((ρ'.set i (.own es)).set j (.val v)) z') R.ex
theorem ap_dPopSet (i j : Nat) (te : DX D) (R : DEnds) (s0 : Sl) (ρ0 : List Sl) (z : Z) : dPopSet i j te R (s0 :: ρ0) z = ∃ ds0, (s0 :: ρ0)[i]? = some (.own ds0) ∧ te (s0 :: ρ0) z (fun d ρ' z' => popD (ρ'[i]?) d fun v es => R.nx ((ρ'.set i (.own es)).set j (.val v)) z') R.ex := rfl
theorem e_popD (ds : List D) (n : Int) (k : D → List D → Prop) : popD (some (.own ds)) (.int n) k = ∃ (m : Nat) (v : D), n = (m : Nat) ∧ m ≤ 1000000000 ∧ ds[m]? = some v ∧ k v (ds.eraseIdx m) := rfl
theorem ds_popSet {i j : Nat} {x y : Str} {te : DX D} {apos cpos xpos ypos : Pos} (hN : X.N.Nodup) (hi : X.N[i]? = some x) (hj : X.N[j]? = some y) (hy : Loc X.env.scope y) (he : DE X W e te)
    (hv : Vis X.env.scope x := by first | exact Or.inl rfl | exact Or.inr (Or.inl rfl) | exact Or.inr (Or.inr rfl)) (hd : (x == ("__debug__" : Str)) = false := by decide)
    (hcd : (x == ("__classdict__" : Str)) = false := by decide)
    (hbase : attributeBase (.Name x xpos) "pop" X.env (eval (.Name x xpos) X.env) = eval (.Name x xpos) X.env := by rfl)
    (hfew : ((backTo cpos (starEach [e] X.env)).all (fun x => !x.1) && (backToKw cpos (keywordEach [] X.env)).all (fun x => x.1.isSome)
      && decide (([e]).length + ([] : List Keyword).length + (if ([] : List Keyword).isEmpty then 0 else 1) < 30)) = true := by rfl)
    (hline : (apos.endLine == cpos.line) = true := by rfl) (hs : starEach [e] X.env = (false, eval e X.env) :: starEach [] X.env := by rfl)
    (hsw : swapsWith (.Call (.Attribute (.Name x xpos) "pop" apos) [e] [] cpos) (some (.Name y ypos)) pos.line X.env = pure false := by rfl)
    (hf : X.fn y = true ∨ X.env.scope.names.lookup y = some .local := by first | exact .inl rfl | exact .inr rfl | assumption) :
    DS X W (.Assign [.Name y ypos] (.Call (.Attribute (.Name x xpos) "pop" apos) [e] [] cpos) pos) (dPopSet i j te) := by
  refine ps_to (ps_set hN hj hy (pe_bm PySem.F.plainAttrs_list PySem.F.slot_list_pop PySem.F.type_list_pop mt_popAt (pe_var hi hv hd hcd) (pa_cons he pa_nil hs) hbase hfew hline hs (by rfl)) hsw hf) fun D σ H ⟨M, ρ, z, O, R, w, ⟨ds0, h0, h⟩, k⟩ => ?_
  obtain ⟨a0, vs0, q1, q2, q3, q4⟩ := w.sl i _ h0
  refine ⟨_, join_some q2, .inl ⟨rfl, _, SqL.of q3⟩, M, ρ, z, O, _, R.ex, w, h, k.ex, fun d ρ' z' v H' O' hd g w' r => ?_⟩
  unfold popD at hd
  split at hd
  · rename_i ds n e1
    obtain ⟨m, d1, rfl, hm, e2, hd⟩ := hd
    obtain ⟨a, vs, p1, p2, p3, p4⟩ := w'.sl i _ e1
    have ea : a = a0 := by rw [q2] at p2; cases p2; rfl
    subst ea
    obtain rfl := RepP.int (z := z') (.inl r)
    obtain ⟨u, f1, f2⟩ := p4.get e2
    refine ⟨a, vs, (m : Int), m, u, rfl, rfl, p3, by omega, by omega, seqIx_nat (lt_of_get f1), f1, ?_⟩
    have na : ∀ (c : Addr) (o : HO), H' c = some o → ¬ NN M z' O' c → (upd H' a (.lst (vs.eraseIdx m))) c = some o := fun c o e nn => by rw [upd_ne (fun q => nn (.inr (.inr ⟨i, by rw [q]; exact p1⟩)))]; exact e
    obtain ⟨w2, g2⟩ := w'.wrote p1 (o := .lst (vs.eraseIdx m)) (s := .own (ds.eraseIdx m)) (lt_of_get e1) ⟨a, vs.eraseIdx m, rfl, p2, upd_same, Reps.mono ⟨na, fun b h => .inl h⟩ _ _ (Reps.eraseIdx m p4)⟩
    exact k.nx _ z' _ _ _ hd (g.toGo.trans (g2.trans GoE.off.toGo)) (w2.set j (Rep.mono ⟨na, fun b h => .inl h⟩ _ _ f2))
  · exact hd.elim
/-! x.append(y.pop(e)) -/
def dAppPop (i j : Nat) (te : DX D) : DTS := fun R ρ z => ∃ ds0 es0, ρ[i]? = some (.own ds0) ∧ ρ[j]? = some (.own es0) ∧ te ρ z (fun d ρ' z' => ∃ ds, ρ'[i]? = some (.own ds) ∧ ds.length < sizeLine ∧ popD (ρ'[j]?) d fun v es => R.nx ((ρ'.set j (.own es)).set i (.own (ds ++ [v]))) z') R.ex
theorem ap_dAppPop (i j : Nat) (te : DX D) (R : DEnds) (s0 : Sl) (ρ0 : List Sl) (z : Z) : dAppPop i j te R (s0 :: ρ0) z = ∃ ds0 es0, (s0 :: ρ0)[i]? = some (.own ds0) ∧ (s0 :: ρ0)[j]? = some (.own es0) ∧ te (s0 :: ρ0) z (fun d ρ' z' => ∃ ds, ρ'[i]? = some (.own ds) ∧ ds.length < sizeLine ∧ popD (ρ'[j]?) d fun v es => R.nx ((ρ'.set j (.own es)).set i (.own (ds ++ [v]))) z') R.ex := rfl
theorem ds_appPop {i j : Nat} {x y : Str} {te : DX D} {apos cpos xpos bpos dpos ypos : Pos} (hij : i ≠ j) (hi : X.N[i]? = some x) (hj : X.N[j]? = some y) (he : DE X W e te)
    (hv : Vis X.env.scope x := by first | exact Or.inl rfl | exact Or.inr (Or.inl rfl) | exact Or.inr (Or.inr rfl)) (hd : (x == ("__debug__" : Str)) = false := by decide) (hcd : (x == ("__classdict__" : Str)) = false := by decide)
    (hv' : Vis X.env.scope y := by first | exact Or.inl rfl | exact Or.inr (Or.inl rfl) | exact Or.inr (Or.inr rfl)) (hd' : (y == ("__debug__" : Str)) = false := by decide) (hcd' : (y == ("__classdict__" : Str)) = false := by decide)
    (hbase : attributeBase (.Name y ypos) "pop" X.env (eval (.Name y ypos) X.env) = eval (.Name y ypos) X.env := by rfl)
    (hfew : ((backTo dpos (starEach [e] X.env)).all (fun x => !x.1) && (backToKw dpos (keywordEach [] X.env)).all (fun x => x.1.isSome)
      && decide (([e]).length + ([] : List Keyword).length + (if ([] : List Keyword).isEmpty then 0 else 1) < 30)) = true := by rfl)
    (hline : (bpos.endLine == dpos.line) = true := by rfl) (hs : starEach [e] X.env = (false, eval e X.env) :: starEach [] X.env := by rfl)
    (hbase' : attributeBase (.Name x xpos) "append" X.env (eval (.Name x xpos) X.env) = eval (.Name x xpos) X.env := by rfl)
    (hfew' : ((backTo cpos (starEach [.Call (.Attribute (.Name y ypos) "pop" bpos) [e] [] dpos] X.env)).all (fun x => !x.1) && (backToKw cpos (keywordEach [] X.env)).all (fun x => x.1.isSome)
      && decide (([.Call (.Attribute (.Name y ypos) "pop" bpos) [e] [] dpos] : List Expr).length + ([] : List Keyword).length + (if ([] : List Keyword).isEmpty then 0 else 1) < 30)) = true := by rfl)
    (hline' : (apos.endLine == cpos.line) = true := by rfl)
    (hs' : starEach [.Call (.Attribute (.Name y ypos) "pop" bpos) [e] [] dpos] X.env = (false, eval (.Call (.Attribute (.Name y ypos) "pop" bpos) [e] [] dpos) X.env) :: starEach [] X.env := by rfl)
    (hsw : swapsWith (.Call (.Attribute (.Name x xpos) "append" apos) [.Call (.Attribute (.Name y ypos) "pop" bpos) [e] [] dpos] [] cpos) none pos.line X.env = pure false := by rfl) :
    DS X W (.Expr (.Call (.Attribute (.Name x xpos) "append" apos) [.Call (.Attribute (.Name y ypos) "pop" bpos) [e] [] dpos] [] cpos) pos) (dAppPop i j te) := by
  refine ps_to (ps_expr (pe_bm PySem.F.plainAttrs_list PySem.F.slot_list_append PySem.F.type_list_append mt_append (pe_var hi hv hd hcd) (pa_cons (pe_bm PySem.F.plainAttrs_list PySem.F.slot_list_pop PySem.F.type_list_pop mt_popAt (pe_var hj hv' hd' hcd') (pa_cons he pa_nil hs) hbase hfew hline hs (by rfl)) pa_nil hs') hbase' hfew' hline' hs' (by rfl)) hsw) fun D σ H ⟨M, ρ, z, O, R, w, ⟨ds0, es0, h0, h0', h⟩, k⟩ => ?_
  obtain ⟨a0, vs0, q1, q2, q3, q4⟩ := w.sl i _ h0
  obtain ⟨b0, ws0, q1', q2', q3', q4'⟩ := w.sl j _ h0'
  refine ⟨_, join_some q2, .inl ⟨rfl, _, SqL.of q3⟩, _, join_some q2', .inl ⟨rfl, _, SqL.of q3'⟩, M, ρ, z, O, _, R.ex, w, h, k.ex, fun d ρ' z' v H' O' ⟨ds, e0, hl, hd⟩ g w' r => ?_⟩
  obtain ⟨a, vs, p1, p2, p3, p4⟩ := w'.sl i _ e0
  have ea : a = a0 := by rw [q2] at p2; cases p2; rfl
  subst ea
  unfold popD at hd
  split at hd
  · rename_i es n e1 _
    obtain ⟨m, d1, rfl, hm, e2, hd⟩ := hd
    obtain ⟨b, ws, r1, r2, r3, r4⟩ := w'.sl j _ e1
    have eb : b = b0 := by rw [q2'] at r2; cases r2; rfl
    subst eb
    have nab : a ≠ b := fun e => hij ((w'.ow i a p1).2.2.2 j (by rw [e]; exact r1)).symm
    obtain rfl := RepP.int (z := z') (.inl r)
    obtain ⟨u, f1, f2⟩ := r4.get e2
    refine ⟨b, ws, (m : Int), m, u, rfl, rfl, r3, by omega, by omega, seqIx_nat (lt_of_get f1), f1, ?_⟩
    have na : ∀ (c : Addr) (o : HO), H' c = some o → ¬ NN M z' O' c → (upd H' b (.lst (ws.eraseIdx m))) c = some o := fun c o e nn => by rw [upd_ne (fun q => nn (.inr (.inr ⟨j, by rw [q]; exact r1⟩)))]; exact e
    obtain ⟨w2, g2⟩ := w'.wrote r1 (o := .lst (ws.eraseIdx m)) (s := .own (es.eraseIdx m)) (lt_of_get e1) ⟨b, ws.eraseIdx m, rfl, r2, upd_same, Reps.mono ⟨na, fun b h => .inl h⟩ _ _ (Reps.eraseIdx m r4)⟩
    have p3' : upd H' b (.lst (ws.eraseIdx m)) a = some (.lst vs) := by rw [upd_ne nab]; exact p3
    refine ⟨a, vs, u, rfl, rfl, p3', by rw [← p4.length]; exact hl, ?_⟩
    have f2' : Rep X.K (NN M z' O') (upd H' b (.lst (ws.eraseIdx m))) d1 u := Rep.mono ⟨na, fun b h => .inl h⟩ _ _ f2
    have p4' : Reps X.K (NN M z' O') (upd H' b (.lst (ws.eraseIdx m))) ds vs := Reps.mono ⟨na, fun b h => .inl h⟩ _ _ p4
    have na2 : ∀ (c : Addr) (o : HO), upd H' b (.lst (ws.eraseIdx m)) c = some o → ¬ NN M z' O' c → (upd (upd H' b (.lst (ws.eraseIdx m))) a (.lst (vs ++ [u]))) c = some o := fun c o e nn => by rw [upd_ne (fun q => nn (.inr (.inr ⟨i, by rw [q]; exact p1⟩)))]; exact e
    have hi2 : (ρ'.set j (.own (es.eraseIdx m)))[i]? = some (.own ds) := by rw [List.getElem?_set_ne (Ne.symm hij)]; exact e0
    obtain ⟨w3, g3⟩ := w2.wrote p1 (o := .lst (vs ++ [u])) (s := .own (ds ++ [d1])) (lt_of_get hi2) ⟨a, vs ++ [u], rfl, p2, upd_same, Reps.mono ⟨na2, fun b h => .inl h⟩ _ _ (p4'.append (.cons f2' .nil))⟩
    exact k.nx _ z' σ _ O' hd (g.toGo.trans (g2.trans g3)) w3
  · exact hd.elim
end
end Lay

set_option Elab.async false
set_option linter.all false
set_option maxRecDepth 100000
set_option maxHeartbeats 2000000
namespace Lay
open PySem PySem.Spec PyProof.Rows L2
/-! ### x is True, x is not False -/
section
variable {X : Cx}
def isB (f : Bool → Bool) : Op2
  | .bl a, .bl b, k => k (.bl (f (decide (a = b))))
  | _, _, _ => False
theorem e_isB (f : Bool → Bool) (a b : Bool) (k : D → Prop) : isB f (.bl a) (.bl b) k = k (.bl (f (decide (a = b)))) := rfl
theorem od_isB : OpR X (compareOp .Is) (OpU X.K (isB id)) := by
  rintro pins s σ H x y v u Q I rx ry ⟨N, z, d1, d2, R, al, r1, r2, h, k⟩
  unfold isB at h
  split at h
  · obtain rfl := r1.bl; obtain rfl := r2.bl
    exact op_is_bl pins s σ H _ _ v u Q I rx ry ⟨_, _, rfl, rfl, k _ _ H h same0 .b⟩
  · exact h.elim
theorem od_notB : OpR X (compareOp .IsNot) (OpU X.K (isB not)) := by
  rintro pins s σ H x y v u Q I rx ry ⟨N, z, d1, d2, R, al, r1, r2, h, k⟩
  unfold isB at h
  split at h
  · obtain rfl := r1.bl; obtain rfl := r2.bl
    exact op_isnot_bl pins s σ H _ _ v u Q I rx ry ⟨_, _, rfl, rfl, k _ _ H h same0 .b⟩
  · exact h.elim
end
/-! ### isinstance of the exception that is caught -/
theorem IsC.kit {K : PySem.W.Frag} {C : Addr} (h : IsC K C) {t : Value} {b : Bool} (hn : (t == .ref C) = false) (hs : PySem.W.subIn K t (.ref C) = some b) : PySem.W.kitOne K t (.ref C) = some b := by
  unfold PySem.W.kitOne
  rw [if_neg (by rw [hn]; exact Bool.false_ne_true)]
  unfold PySem.W.kitCls
  have q : (PySem.W.clsIn K C).isSome = true := h.c
  show (if ((PySem.W.clsIn K C).isSome && PySem.W.typeIn K (.ref C) == some (.type "type")) = true then PySem.W.subIn K t (.ref C) else none) = some b
  rw [if_pos (by rw [q, h.t]; rfl)]
  exact hs
def clsDs : List D → Option (List Value)
  | [] => some []
  | d :: ds => (clsD d).bind fun u => (clsDs ds).map (u :: ·)
theorem cls_of {K : PySem.W.Frag} {N : Addr → Prop} {H : Hp} {d : D} {v : V} {u : Value} (r : Rep K N H d v) (h : clsD d = some u) : ClsV v u := by
  cases d with
  | ty n => rw [Rep] at r; subst r; cases h; exact .ty n
  | adr a => rw [Rep] at r; subst r; cases h; exact .own a
  | _ => cases h
theorem clss_of {K : PySem.W.Frag} {N : Addr → Prop} {H : Hp} : ∀ {ds : List D} {vs : List V} {us : List Value}, Reps K N H ds vs → clsDs ds = some us → Paired ClsV vs us
  | [], vs, us, r, h => by rw [Reps] at r; subst r; cases h; exact .nil
  | d :: ds, vs, us, r, h => by
    rw [Reps] at r
    obtain ⟨v, q, rfl, r1, r2⟩ := r
    obtain ⟨u, e1, h⟩ := Option.bind_eq_some_iff.mp h
    obtain ⟨ws, e2, rfl⟩ := Option.map_eq_some_iff.mp h
    exact .cons (cls_of r1 e1) (clss_of r2 e2)
/-- whether a class, or one of some, has the instances of t -/
def isOf (K : PySem.W.Frag) (t : Value) : D → Bool → Prop
  | .tup ds, b => ∃ us, clsDs ds = some us ∧ PySem.W.kitAny K t us = some b
  | d, b => ∃ u, clsD d = some u ∧ PySem.W.kitOne K t u = some b
def rIsX (K : PySem.W.Frag) (cls : Value) (a : Addr) (d : Option Addr) : List V → Hp → VK → Prop := fun xs H Q => ∃ (C : Addr) (c : V) (b : Bool), cls = .ref C ∧ ExcC K C ∧ xs = [.ref a, c] ∧ (∀ dd, d = some dd → ∃ fs, H dd = some (.xd fs)) ∧
  ((∃ u, ClsV c u ∧ PySem.W.kitOne K (.ref C) u = some b) ∨ ∃ tp cs us, c = .ref tp ∧ SqT K H tp cs ∧ Paired ClsV cs us ∧ PySem.W.kitAny K (.ref C) us = some b) ∧ Q (.bl b) H
section
variable {X : Cx} {W : WX} {a : Addr} {oe : Obj} {cls : Value} {od : Option Addr} {pn : List (Addr × Obj)}
theorem call_isX (hz : Zc cls od oe) (hf : ∃ vs, oe.data = .fields vs) : CallR (X.suite a ((a, oe) :: pn)) (.builtin "isinstance") (rIsX X.K cls a od) := by
  rintro pins s σ H xs us Q I r ⟨C, c, b, rfl, EC, rfl, hd, hc, q⟩
  obtain ⟨u1, u2, rfl, r1, r2⟩ := vals2 r
  obtain rfl : u1 = Value.ref a := r1
  obtain ⟨ha, _⟩ := I.pin (a, oe) (List.mem_append_left _ List.mem_cons_self)
  obtain ⟨vs, hv⟩ := hf
  have no : PySem.W.notCls oe = true := by unfold PySem.W.notCls; rw [hv]
  obtain ⟨dob, J⟩ : ∃ dob : Option Obj, PySem.W.InstAt s.heap a oe C dob := by
    cases od with
    | none => exact ⟨none, ha, hz.1, no, by rw [hz.2]; trivial⟩
    | some dd =>
      obtain ⟨fs, e⟩ := hd dd rfl
      obtain ⟨mA, hns, _⟩ := (show ObjOk X.prog X.w H s.heap dd (.xd fs) from I.hok dd _ e)
      obtain ⟨o, ho, _⟩ := lookIn_ns hns
      exact ⟨some o, ha, hz.1, no, by rw [hz.2]; exact ho⟩
  have hcl : (PySem.W.clsIn X.K C).isSome = true := by
    obtain ⟨cd, e, _⟩ := PySem.W.any_some EC.hd
    rw [e]; rfl
  have KX := PySem.W.kitx_exc (x := a) (ox := oe) (od := dob) hcl EC.hg EC.hk EC.hs EC.ha EC.hn EC.ht EC.hm
  rcases hc with ⟨u, k, e⟩ | ⟨tp, cs, ws, rfl, hq, k, e⟩
  · obtain rfl := k.eq r2
    exact PySem.W.kia_one KX I.kIn J e (fun z => nomatch z) fun tk => ⟨.bl b, H, I.tok tk, rfl, q⟩
  · obtain rfl : u2 = Value.ref tp := r2
    obtain ⟨its, rs, hl, _⟩ := I.tuple hq
    obtain rfl := ClsV.all k rs
    obtain ⟨n, dd, sl, o⟩ := tup_obj hl
    exact PySem.W.kia_tup KX I.kIn J o e (fun z => nomatch z) fun tk => ⟨.bl b, H, I.tok tk, rfl, q⟩
def dIsX (K : PySem.W.Frag) (a : Addr) (cls : Value) (od : Option Addr) (i : Nat) (tc : DX D) : DX D := fun ρ z R RX => match ρ[i]? with
  | some (.exc a' od' ns ds) => a' = a ∧ od' = od ∧ tc ρ z (fun c ρ' z' => (∃ ns' ds', ρ'[i]? = some (.exc a od ns' ds')) ∧ ∃ C b, cls = .ref C ∧ ExcC K C ∧ isOf K (.ref C) c b ∧ R (.bl b) ρ' z') RX
  | _ => False
theorem de_isX {i : Nat} {y x : Str} {ypos p pos : Pos} {c : Expr} {tc : DX D} (hz : Zc cls od oe) (hf : ∃ vs, oe.data = .fields vs) (hN : X.N[i]? = some y) (hc : DE (X.suite a ((a, oe) :: pn)) W c tc)
    (hg : Gl X x) (hm : X.mg x = none) (hv : bootBuiltins x = some (.builtin "isinstance"))
    (hvis : Vis X.env.scope y := by first | exact Or.inl rfl | exact Or.inr (Or.inl rfl) | exact Or.inr (Or.inr rfl)) (hd : (y == ("__debug__" : Str)) = false := by decide) (hcd : (y == ("__classdict__" : Str)) = false := by decide)
    (hn : x ≠ "__name__" := by decide) (hdb : (x == ("__debug__" : Str)) = false := by decide) (he : starEach [.Name y ypos, c] X.env = (false, eval (.Name y ypos) X.env) :: starEach [c] X.env := by rfl) (he2 : starEach [c] X.env = (false, eval c X.env) :: starEach [] X.env := by rfl)
    (hpl : (backTo pos (starEach [c] X.env)).any (·.1) = false := by rfl) : DE (X.suite a ((a, oe) :: pn)) W (.Call (.Name x p) [.Name y ypos, c] [] pos) (dIsX X.K a cls od i tc) := by
  have hp : PE (X.suite a ((a, oe) :: pn)) (.Name y ypos) (tVar i) := pe_var (X := X.suite a ((a, oe) :: pn)) hN hvis hd hcd
  refine pe_to (pe_callB (X := X.suite a ((a, oe) :: pn)) (call_isX hz hf) hg hm hv (pa_cons (X := X.suite a ((a, oe) :: pn)) hp (pa_cons (X := X.suite a ((a, oe) :: pn)) hc pa_nil he2) he) hn hdb he hpl) fun σ H Q ⟨M, ρ, z, O, R, RX, w, h, x, k⟩ => ?_
  unfold dIsX at h
  split at h
  · rename_i a' od' ns ds e
    obtain ⟨rfl, rfl, h⟩ := h
    obtain ⟨q1, q2, q3⟩ := w.sl i _ e
    refine ⟨_, join_some q2, M, ρ, z, O, _, RX, w, h, x, fun c ρ' z' v H' O' ⟨⟨ns', ds', e'⟩, C, b, hcl, EC, ho, hR⟩ g w' r => ?_⟩
    obtain ⟨p1, p2, p3⟩ := w'.sl i _ e'
    refine ⟨C, v, b, hcl, EC, rfl, fun dd hd => ?_, ?_, k _ ρ' z' _ H' O' hR g w' .b⟩
    · subst hd
      obtain ⟨_, _, vs, e2, _⟩ := p3
      exact ⟨_, e2⟩
    · cases c with
      | tup ds =>
        obtain ⟨us, e1, e2⟩ := ho
        obtain ⟨t, vs, rfl, s1, s2⟩ := RepP.tup (z := z') (.inl r)
        exact .inr ⟨t, vs, us, rfl, s1, clss_of s2 e1, e2⟩
      | ty n => obtain ⟨u, e1, e2⟩ := ho; exact .inl ⟨u, cls_of r e1, e2⟩
      | adr n => obtain ⟨u, e1, e2⟩ := ho; exact .inl ⟨u, cls_of r e1, e2⟩
      | _ => obtain ⟨u, e1, e2⟩ := ho; cases e1
  · exact h.elim
theorem ap_dIsX (K : PySem.W.Frag) (a : Addr) (cls : Value) (od : Option Addr) (i : Nat) (tc : DX D) (s0 : Sl) (ρ0 : List Sl) (z : Z) (R : D → List Sl → Z → Prop) (RX : KX) : dIsX K a cls od i tc (s0 :: ρ0) z R RX = (match (s0 :: ρ0)[i]? with
  | some (.exc a' od' ns ds) => a' = a ∧ od' = od ∧ tc (s0 :: ρ0) z (fun c ρ' z' => (∃ ns' ds', ρ'[i]? = some (.exc a od ns' ds')) ∧ ∃ C b, cls = .ref C ∧ ExcC K C ∧ isOf K (.ref C) c b ∧ R (.bl b) ρ' z') RX
  | _ => False) := rfl
end
/-! ### a, b, .. = a list -/
section
variable {X : Cx} {W : WX} {es : List Expr} {pos : Pos}
def dgLst (n : Nat) (gs : DTGs) : DTG := fun d ρ z R => match d with | .lst ds => ds.length = n ∧ gs ds ρ z R | _ => False
theorem dg_lst {k : Nat} {ss : List Nat} {gs : DTGs} {n : Nat} (hc : X.calm = true) (h : DGs X es ss gs) (hn : (assignEach es X.env).length = n := by rfl) (hst : (assignEach es X.env).findIdx? (·.1) = none := by rfl) : DG X (.Tuple es k pos) ss (dgLst n gs) :=
  pg_to (pg_lst hc h hn hst) fun v σ H Q ⟨M, ρ, z, O, d, R, w, r, h, k⟩ => by
    cases d with
    | lst ds =>
      obtain ⟨a, vs, rfl, h1, h2⟩ := RepP.lst (z := z) (.inl r)
      exact ⟨a, vs, rfl, SqL.of h1, by rw [← h2.length]; exact h.1, M, ρ, z, O, ds, R, w, h2, h.2, k⟩
    | _ => exact h.elim
theorem ap_dgLst (n : Nat) (gs : DTGs) (ds : List D) (s : Sl) (ρ : List Sl) (z : Z) (R : List Sl → Z → Prop) : dgLst n gs (.lst ds) (s :: ρ) z R = (ds.length = n ∧ gs ds (s :: ρ) z R) := rfl
end
end Lay

set_option Elab.async false
set_option linter.all false
set_option maxRecDepth 100000
set_option maxHeartbeats 2000000
namespace Lay
open PySem PySem.Spec PyProof.Rows L2
/-! ### defs that may be called while a repr is under way -/
structure MethodA (P : Program) (w : World) (K : PySem.W.Frag) (mg : Str → Option Value) (base : Heap)
    (k : Nat) (C : Addr) (m : Str) (D : Addr → FuncData → Prop) (ps : List Str) (sp : Sp) : Prop where
  ex : ∃ (f : Addr) (fd : FuncData), Cls K C ∧ Meth K C m f ∧ D f fd ∧ Binds K fd ps [] ∧ FnOk P w K mg base CX0 k f fd ps sp
theorem MethodA.m {P : Program} {w : World} {K : PySem.W.Frag} {mg : Str → Option Value} {base : Heap} {k : Nat} {C : Addr} {m : Str} {D : Addr → FuncData → Prop} {ps : List Str} {sp : Sp}
    (M : MethodA P w K mg base k C m D ps sp) : Method P w K mg base CX0 k C m D ps sp := let ⟨f, fd, a, b, c, d, e⟩ := M.ex; ⟨f, fd, a, b, c, d, FnG.of e⟩
section
variable {X : Cx} {j k : Nat} {C f : Addr} {fd : FuncData} {D : Addr → FuncData → Prop} {ps : List Str} {sp : Sp} {pins : List (Addr × Obj)} {σ : L2.St} {H : Hp} {s : Shared}
  {Q : VK} {E : XK} {us : List Value} {vs : List V}
theorem acallA {A : Around} {E' : Value → Shared → Prop} (F : FnOk X.prog X.w X.K X.mg X.base CX0 k f fd ps sp) (hr : Room k A)
    (e0 : Env0 X.prog X.w X.K X.mg X.base A X.stack s H) (hb : Binds X.K fd ps []) (I : Inv X pins σ H s) (r : Vals vs us) (h : sp vs H Q E) :
    wpAny (model X.prog X.w) A (call (.ref f) us) (EP X pins σ Q) E' s := by
  have hl : us.length = ps.length := by rw [← r.length]; exact F.len _ _ _ _ h
  have bb := hb s us I.kIn (by rw [List.append_nil]; exact hl)
  rw [List.append_nil] at bb
  refine wpAny_call (codeAny_mono (F.run A X.stack s H ⟨us, []⟩ us vs Q E hr e0 bb r h) fun r s' hq => ?_)
  match r, hq with
  | .ok (.ret u), hq => exact I.after hq
theorem MethodA.str (M : MethodA X.prog X.w X.K X.mg X.base k C "__str__" D ps sp) (hr : Room j X.A) (hj : k + 2 ≤ j := by decide) : CallR X (.type "str") (rStrO C sp) := by
  obtain ⟨f, fd, c, hm, F, b, G⟩ := M.ex
  rintro pins s σ H _ us Q I r ⟨a, dx, fs, rfl, ea, z⟩
  obtain ⟨_, rfl, rfl⟩ := r.one
  obtain ⟨mA, O, _⟩ := ins_get I.hok ea
  obtain ⟨od, J, _⟩ := O.look
  have r2 := (Room.mono hr hj).in1.in1
  refine PySem.W.kso_call r2.units0 I.kIn J hm.at_ hm.fn (wpAny_mono (acallA (vs := [V.ref a]) G r2 I.env0.in1.in1 b I (.cons rfl .nil) z) (fun w s' hw => ?_) fun _ _ e => e)
  obtain ⟨v, H', I', rv, n, rfl, q⟩ := hw
  obtain ⟨t, rfl⟩ := (show ∃ t, w = Value.str n t from rv)
  exact ⟨.str n, H', I', ⟨_, rfl⟩, q⟩
end
section
variable {X : Cx} {W : WX} {e : Expr} {pos : Pos} {j k : Nat} {C : Addr} {D' : Addr → FuncData → Prop} {ps : List Str} {sp : PSp}
theorem MethodA.dStr {t : DX D} (M : MethodA X.prog X.w X.K X.mg X.base k C "__str__" D' ps (lift X.K sp)) (hr : Room j X.A) (hg : True) (hG : Gl X "str") (hm : X.mg "str" = none) (he : DE X W e t) (hj : k + 2 ≤ j := by decide)
    (hs : starEach [e] X.env = (false, eval e X.env) :: starEach [] X.env := by rfl) : DE X W (.Call (.Name "str" p) [e] [] pos) (dOne C sp isStr t) := pe_to (pe_callTy (M.str hr hj) hG hm (by decide +kernel) (pa_cons he pa_nil hs) (by decide) (by decide) hs (by rfl)) fun σ H Q h => by
  obtain ⟨M, ρ, z, O, R, RX, w, h1, x, k⟩ := h.one1
  refine ⟨M, ρ, z, O, R, RX, w, h1, x, fun d ρ' z' v H' O' hd g w r => ?_⟩
  obtain ⟨a, dx, fs, q1, q2, q3⟩ := k d ρ' z' v H' O' hd g w r
  exact ⟨a, dx, fs, q1, q2, lift_str q3⟩
end
/-- a def by its body, with no word of what repr is under way -/
theorem dbodyA {P : Program} {w : World} {K : PySem.W.Frag} {mg : Str → Option Value} {base : Heap} {x qual : Str} {st : Stmt} {f : Addr} {fd : FuncData} {N ps : List Str} {k : Nat} {sp : PSp} (F : Fun K x qual st f fd) (S : FnScope N ps (defScope st)) (ln : ∀ ds z R RX, sp ds z R RX → ds.length = ps.length)
    (hb : ∀ (cdv : Value) (A : Around) (outer : List Env) (s : Shared) (H : Hp) (E : XK), Room k (A.deeper (envOfC qual (defScope st) s.heap.objs.size f cdv)) → True →
      ∃ t, DSs (cxOf CX0 P w K mg base N qual (defScope st) f cdv A outer s H E).nox W0 (defBody st) t ∧ ∀ ds z R RX, sp ds z R RX → t { nx := fun _ z' => R .non z', rt := R, ex := noX } (startD N ds) z) :
    FnOk P w K mg base CX0 (k + 1) f fd ps (lift K sp) := by
  refine F.ok S (fun vs H Q E h => ?_) fun cdv A outer s H vs Q E hr h => ?_
  · unfold lift at h
    obtain ⟨_, ds, _, _, _, _, _, _, r, q, _⟩ := h
    exact r.length ▸ ln _ _ _ _ q
  · obtain ⟨t, ht, hh⟩ := hb cdv A outer s H E hr trivial
    unfold lift at h
    obtain ⟨M, ds, z, R, RX, al, pot, pm, r, q, k1, _⟩ := h
    exact ⟨_, ht, M, startD N ds, z, O0, _, Wd.beg al pot pm r, hh ds z R RX q, fun ρ' z' σ' H' O' h g w => k1 _ z' _ H' h (g.finOf w) .n, fun _ _ _ _ _ h => h.elim, fun _ _ _ _ _ h => h.elim, fun d ρ' z' v σ' H' O' h g w r => k1 d z' v H' h (g.finOf w) (Rep.mono nn0 _ _ r), fun _ _ _ _ _ _ _ _ _ h => h.elim⟩
/-! ### repr of tuples, own instances within -/
theorem tup_depth (A : Around) (us : List Value) (id : String) (hi : id = "tuple.__repr__" ∨ id = "tuple.__repr__.under") : (A.under (.builtin id ⟨us, []⟩)).depth ≤ A.depth + 3 ∧ (A.under (.builtin id ⟨us, []⟩)).units = A.units + 1 ∧ (A.under (.builtin id ⟨us, []⟩)).handled = A.handled := by
  rcases hi with rfl | rfl
  · exact ⟨by first | exact Nat.le_add_right _ _ | simp [Around.under, Code.weight, Code.isCreation, Code.isGuard, Code.isCaller, Code.frames, Code.isFrame, guardIds], units_under_tuple_repr _ _, by first | rfl | simp [Around.under]⟩
  · exact ⟨by first | exact Nat.le_add_right _ _ | simp [Around.under, Code.weight, Code.isCreation, Code.isGuard, Code.isCaller, Code.frames, Code.isFrame, guardIds], units_under_tuple_repr_under _ _, by first | rfl | simp [Around.under]⟩
theorem Room.tup {k : Nat} {A : Around} (r : Room (k + 1) A) (us : List Value) {id : String} (hi : id = "tuple.__repr__" ∨ id = "tuple.__repr__.under") : Room k (A.under (.builtin id ⟨us, []⟩)) :=
  have ⟨h1, h2, h3⟩ := tup_depth A us id hi
  ⟨h3.trans r.hd, by have := r.dp; omega, by have := r.un; omega⟩
theorem Env0.tup {P : Program} {w : World} {K : PySem.W.Frag} {mg : Str → Option Value} {base : Heap} {A : Around} {outer : List Env} {s : Shared} {H : Hp} (e : Env0 P w K mg base A outer s H) (us : List Value) {id : String} (hi : id = "tuple.__repr__" ∨ id = "tuple.__repr__.under") :
    Env0 P w K mg base (A.under (.builtin id ⟨us, []⟩)) outer s H := by
  rcases hi with rfl | rfl
  · exact ⟨by first | exact e.frames | (simpa [Around.under, Code.envs, Code.isFrame, pushEnvs] using e.frames), e.mod, e.bs, e.bsz, e.funs, e.frf, e.hok, e.bare⟩
  · exact ⟨by first | exact e.frames | (simpa [Around.under, Code.envs, Code.isFrame, pushEnvs] using e.frames), e.mod, e.bs, e.bsz, e.funs, e.frf, e.hok, e.bare⟩
/-- a value by itself, and its text -/
inductive Leaf : V → Str → Prop
  | int {i : Int} (h : i.natAbs.log2 < 1920) : Leaf (.int i) (toString i)
  | str {x : Str} (h : (reprText x).length ≤ sizeLine) : Leaf (.str x) (reprText x)
  | bl {b : Bool} : Leaf (.bl b) (if b then "True" else "False")
  | non : Leaf .non "None"
inductive HSh (K : PySem.W.Frag) (C : Addr) (sp : Sp) (G : Hp → Prop) : List Addr → Nat → V → Str → Prop
  | own {as : List Addr} {n : Nat} {a : Addr} {t : Str} (h : ∀ H, G H → (∃ dx fs, H a = some (.ins C dx fs)) ∧ sp [.ref a] H (fun v H' => v = .str t ∧ G H') E0) : HSh K C sp G as n (.ref a) t
  | leaf {as : List Addr} {n : Nat} {v : V} {t : Str} (h : Leaf v t) : HSh K C sp G as n v t
  | tup {as : List Addr} {n : Nat} {a : Addr} {vs : List V} {ts : List Str} (ha : a ∉ as) (h : ∀ H, G H → SqT K H a vs) (hl : ts.length = vs.length) (ht : ∀ (j : Nat) (v : V) (t : Str), vs[j]? = some v → ts[j]? = some t → HSh K C sp G (a :: as) n v t) :
      HSh K C sp G as (n + 1) (.ref a) (tupleText ts)
/-- shown under way: from any state with G -/
def ShowsG (prog : Program) (w : World) (A : Around) (E : Value → Shared → Prop) (G : Shared → Prop) (t : Str) (x : Value) : Prop :=
  ∀ b, b + t.length ≤ sizeLine → ∀ s, G s → ∀ Q : Str → Shared → Prop, (∀ s', G s' → Q t s') → wpAny (model prog w) A (pyReprUnder b x) Q E s
theorem piled_mem {t : Str} : ∀ {ts : List Str} {i : Nat}, ts[i]? = some t → piled (ts.take i) + (t.length + 2) ≤ piled ts := fun {ts i} h => by
  have h1 := piled_take_succ h
  have h2 := piled_take_le ts (i + 1)
  omega
section
variable {prog : Program} {w : World} {A : Around} {E : Value → Shared → Prop} {G : Shared → Prop}
/-- the items of a tuple shown one behind the other -/
theorem show_items {xs : List Value} {ts : List Str} {b : Nat} (hT : Paired (ShowsG prog w A E G) ts xs) (hn : b + piled ts ≤ sizeLine) {s : Shared} (hs : G s) {Q : (Array Str × Nat) → Shared → Prop} (hQ : ∀ s', G s' → Q ⟨ts.toArray, b + piled ts⟩ s') :
    wpAny (model prog w) A (forIn xs (⟨#[], b⟩ : Array Str × Nat) tupBody) Q E s := by
  refine wpAny_forIn_list _ (fun rest st s' => G s' ∧ ∃ us, Paired (ShowsG prog w A E G) us rest ∧ st.2 + piled us = b + piled ts ∧ st.1.toList ++ us = ts) _ ?_ ?_ _ _ ⟨hs, ts, hT, rfl, rfl⟩
  · rintro x rest ⟨acc, n⟩ s' ⟨g, us, hp, hl, hc⟩
    match us, hp with
    | t :: us, .cons hx hr =>
      rw [piled_cons] at hl
      unfold tupBody
      refine wpAny_bind (hx _ (by show n + 1 + _ ≤ _; have : n + (t.length + 2 + piled us) = b + piled ts := hl; omega) s' g _ fun s2 g2 => wpAny_pure ⟨g2, us, hr, ?_, ?_⟩)
      · show n + (t.length + 2) + piled us = _
        rw [← hl]
        exact Nat.add_assoc _ _ _
      · show (acc.push t).toList ++ us = ts
        rw [Array.toList_push, List.append_assoc]
        exact hc
  · rintro ⟨acc, n⟩ s' ⟨g, us, hp, hl, hc⟩
    cases hp
    rw [List.append_nil] at hc
    have e1 : acc = ts.toArray := by rw [← hc]
    have e2 : n = b + piled ts := hl
    rw [e1, e2]
    exact hQ s' g
/-- a tuple's own repr, under way or not -/
theorem tup_shown {s : Shared} {a : Addr} {xs : Array Value} {ts : List Str} {b : Nat} {id : String} {rest : List Value} {g : List Code} {R : Result → Shared → Prop} (hi : id = "tuple.__repr__" ∨ id = "tuple.__repr__.under") (ha : s.heap.IsTuple a xs) (hg : A.guards = some g)
    (hno : ∀ c ∈ g, tupGuardF (.ref a) (c, default) = false) (hs : G s) (hT : Paired (ShowsG prog w (A.under (.builtin id ⟨.ref a :: rest, []⟩)) (fun e s' => R (.error e) s') G) ts xs.toList) (hl : ts.length = xs.size) (hz : b + (tupleText ts).length ≤ sizeLine)
    (hG : ∀ s t, G s → G { s with toks := t }) (hR : ∀ s' u, G s' → R (.ok (.ret (.str (tupleText ts) u))) s') :
    wpOwn (model prog w) A (.builtin id ⟨.ref a :: rest, []⟩) (Builtin.tupleReprAt b ⟨[.ref a], []⟩) (fun fin s' => match fin with | .done f => R (.ok f) s' | .again c' => c'.quiet = true ∧ codeAny (model prog w) A c' R s') (fun e s' => R (.error e) s') s := by
  obtain ⟨n, dd, sl, ea⟩ := tup_obj ha
  have hp := piled_le_tupleText ts
  rw [tuple_repr_tree, tupleReprUnderWay_eq]
  refine wpOwn_bind (wpOwn_stackTailAny hg (tupGuardF_off _) (tupGuardF_pos _) ?_)
  rw [show (g.any fun c => tupGuardF (.ref a) (c, default)) = false from List.any_eq_false.mpr fun c m => by rw [hno c m]; exact Bool.false_ne_true]
  refine wpOwn_of_wpAny ?_
  rw [if_neg Bool.false_ne_true]
  unfold tupleReprRest Builtin.Tuple.tupleItemsOf
  refine wpAny_bind (wpAny_bind (wpAny_seqItems ea rfl (wpAny_pure ?_)))
  rw [← Array.forIn_toList]
  refine wpAny_bind (show_items hT (by omega) hs fun s' g' => ?_)
  have e : (("(" : Str) ++ Str.join ", " ts.toArray.toList ++ (if xs.size == 1 then ",)" else ")" : String)) = tupleText ts := by unfold tupleText; rw [hl]
  rw [e]
  exact wpAny_bind (wpAny_mkStr (wpAny_pure (hR _ _ (hG _ _ g'))) (by omega))
end
section
variable {X : Cx} {j k : Nat} {C : Addr} {D' : Addr → FuncData → Prop} {ps : List Str} {sp : Sp} {pins : List (Addr × Obj)} {σ : L2.St}
theorem boundBy_K {prog : Program} {w : World} {A : Around} {E : Value → Shared → Prop} {s : Shared} {K : PySem.W.Frag} {x C f : Addr} {ox : Obj} {od : Option Obj} {name : Str} {last : Value → List Value → Sem Value} {Q : Option Value → Shared → Prop} (X : K.In s.heap) (I : PySem.W.InstAt s.heap x ox C od)
    (hs : PySem.W.findIn K (.ref C) name = some (some (.ref f))) (hf : PySem.W.isFn K (.ref f) = true) (h : wpAny (model prog w) A (last (.ref f) [.ref x]) (fun v => Q (some v)) E s) : wpAny (model prog w) A (callSpecialIfBoundBy? last (.ref x) name) Q E s := by
  have fin : wpAny (model prog w) A (last (.ref f) [.ref x] >>= fun v => pure (some v)) Q E s := wpAny_bind (wpAny_mono h (fun _ _ y => wpAny_pure y) fun _ _ y => y)
  simp only [callSpecialIfBoundBy?, bindSpecialIfBound?]
  refine wpAny_holding (wpAny_bind (wpAny_bind (wpAny_bind (I.type.here ((PySem.W.looks_findIn X hs).here (wpAny_bind (wpAny_askSetting (wpAny_ite ?_))))))))
  split
  · exact wpAny_bind ((PySem.W.bind_fn X _ (beq_iff_eq.mp hf)).here (wpAny_pure (by exact fin)))
  · exact wpAny_tryCatch (wpAny_bind ((PySem.W.bind_fn X _ (beq_iff_eq.mp hf)).here (wpAny_pure (by exact fin))))
theorem ownUnder_K {prog : Program} {w : World} {A : Around} {E : Value → Shared → Prop} {s : Shared} {K : PySem.W.Frag} {x C f : Addr} {ox : Obj} {od : Option Obj} {b : Nat} {Q : Str → Shared → Prop} (hb : b ≤ sizeLine) (hu : A.units < cLine) (X : K.In s.heap) (I : PySem.W.InstAt s.heap x ox C od)
    (hs : PySem.W.findIn K (.ref C) "__repr__" = some (some (.ref f))) (hf : PySem.W.isFn K (.ref f) = true) (h : wpAny (model prog w) A (call (.ref f) [.ref x]) (fun v s' => ∃ t u, v = .str t u ∧ Q t s') E s) :
    wpAny (model prog w) A (pyReprUnder b (.ref x)) Q E s := by
  refine wpAny_pyReprUnder_ref hb ?_
  unfold pyReprObjUnder pyReprObjBy
  refine wpAny_bind (wpAny_cRoomFor hu (wpAny_bind (wpAny_bind (I.type.here ((PySem.W.looks_findIn X hs).here ?_)))))
  show wpAny _ _ (if (some (Value.ref f)).isNone = true then _ else _) _ _ _
  rw [if_neg (by simp)]
  refine wpAny_bind (boundBy_K X I hs hf (wpAny_mono h (fun v s' hv => ?_) fun _ _ y => y))
  obtain ⟨t, u, rfl, q⟩ := hv
  refine wpAny_bind (wpAny_isInstance (T := "str") (b := true) rfl isSubtype_str_str ?_)
  first
    | exact wpAny_pure ⟨_, _, rfl, q⟩
    | (rw [if_pos rfl]; exact wpAny_pure ⟨_, _, rfl, q⟩)
/-- no guard asks for an address that is not among as -/
def Off (as : List Addr) (g : List Code) : Prop := ∀ a, a ∉ as → ∀ c ∈ g, tupGuardF (.ref a) (c, default) = false
theorem Off.cons {as : List Addr} {g : List Code} (h : Off as g) (a : Addr) (id : String) (rest : List Value) : Off (a :: as) (.builtin id ⟨.ref a :: rest, []⟩ :: g) := fun b hb c hc => by
  rw [List.mem_cons, not_or] at hb
  rcases List.mem_cons.mp hc with rfl | hc
  · show (Value.ref a == Value.ref b && _) = false
    rw [show (Value.ref a == Value.ref b) = false from beq_eq_false_iff_ne.mpr fun q => hb.1 (by injection q with q; exact q.symm)]
    rfl
  · exact h b hb.2 c hc
theorem MethodA.under (M : MethodA X.prog X.w X.K X.mg X.base k C "__repr__" D' ps sp) {G : Hp → Prop} {E : Value → Shared → Prop} : ∀ {as : List Addr} {n : Nat} {v : V} {t : Str}, HSh X.K C sp G as n v t → ∀ {A : Around} {g : List Code}, Room (k + n) A → A.guards = some g → Off as g →
    (∀ H s, Inv X pins σ H s → Env0 X.prog X.w X.K X.mg X.base A X.stack s H) → ∀ {u : Value}, RelV v u → ShowsG X.prog X.w A E (fun s => ∃ H, Inv X pins σ H s ∧ G H) t u := by
  intro as n v t h
  induction h with
  | @own as n a t h =>
    intro A g hr hg ho hA u ru b hb s ⟨H, I, hG⟩ Q hQ
    obtain ⟨f, fd, c0, hm, F, bb, Gf⟩ := M.ex
    obtain rfl : u = Value.ref a := ru
    obtain ⟨⟨dx, fs, ea⟩, z⟩ := h H hG
    obtain ⟨mA, O, _⟩ := ins_get I.hok ea
    obtain ⟨od, J, _⟩ := O.look
    refine ownUnder_K (by omega) hr.units0 I.kIn J hm.at_ hm.fn (wpAny_mono (acallA (vs := [V.ref a]) Gf (hr.mono (Nat.le_add_right _ _)) (hA _ _ I) bb I (.cons rfl .nil) z) (fun w s' hw => ?_) fun _ _ e => e)
    obtain ⟨v, H', I', rv, rfl, hG'⟩ := hw
    obtain ⟨u, rfl⟩ := (show ∃ u, w = Value.str t u from rv)
    exact ⟨_, _, rfl, hQ s' ⟨H', I', hG'⟩⟩
  | @leaf as n v t h =>
    intro A g hr hg ho hA u ru b hb s ⟨H, I, hG⟩ Q hQ
    have fin : ∀ tk, Q t { s with toks := tk } := fun tk => hQ _ ⟨H, I.tok tk, hG⟩
    cases h with
    | int h => obtain ⟨tk, rfl⟩ := ru; exact ReprIs.int tk h b hb _ _ _ _ fin
    | str h => obtain ⟨tk, rfl⟩ := ru; exact ReprIs.str _ tk h b hb _ _ _ _ fin
    | bl => obtain rfl := (show u = _ from ru); exact ReprIs.bool _ b hb _ _ _ _ fin
    | non => obtain rfl := (show u = _ from ru); exact ReprIs.none b hb _ _ _ _ fin
  | @tup as n a vs ts ha h hl ht ih =>
    intro A g hr hg ho hA u ru b hb s ⟨H, I, hG⟩ Q hQ
    obtain rfl : u = Value.ref a := ru
    obtain ⟨its, rs, hT, _⟩ := I.tuple (h H hG)
    have ll := rs.length
    obtain ⟨m, dd, sl, eo⟩ := tup_obj hT
    refine wpAny_pyReprUnder_ref (by omega) (wpAny_pyReprObjUnder_twin (twin := "tuple.__repr__.under") ⟨_, eo, rfl⟩ F.slot_tuple_repr rfl hr.units0
      (call_twin_own (F.quiet_tuple_repr_under _) F.entry_tuple_repr_under F.check_tuple_repr_under ⟨_, eo, rfl⟩ F.slot_tuple_repr (F.args_tuple_repr_1 _)
        (tup_shown (ts := ts) (R := callEnd _ E) (G := fun s => ∃ H, Inv X pins σ H s ∧ G H) (.inr rfl) hT hg (ho a ha) ⟨H, I, hG⟩ (paired_at (by simp [hl, ll]) fun i t x et ex => ?_) (by simp [hl, ll]) hb (fun s t ⟨H, I, q⟩ => ⟨H, I.tok t, q⟩) fun s' u q => ⟨⟨_, _, rfl⟩, _, _, rfl, hQ s' q⟩)))
    have hi := lt_of_get et
    obtain ⟨u, f1, r1⟩ := rs.get (i := i) (x := vs[i]'(by omega)) (List.getElem?_eq_getElem _)
    have ex' : its[i]? = some x := by simpa using ex
    rw [ex'] at f1
    cases f1
    have hr' : Room (k + n + 1) A := hr
    exact ih i _ _ (List.getElem?_eq_getElem _) et (Room.tup hr' _ (.inr rfl)) (guards_under_guard (isGuard_tuple_repr_under _) hg) (ho.cons a _ _) (fun H s I => Env0.tup (hA H s I) _ (.inr rfl)) r1
def rTupR (K : PySem.W.Frag) (C : Addr) (sp : Sp) (n : Nat) : List V → Hp → VK → Prop := fun xs H Q => ∃ (G : Hp → Prop) (a : Addr) (vs : List V) (t : Str), xs = [.ref a] ∧ SqT K H a vs ∧ G H ∧ t.length ≤ sizeLine ∧ (TupInj K H → HSh K C sp G [] (n + 1) (.ref a) t) ∧ ∀ H', G H' → Q (.str t) H'
theorem MethodA.tupRepr {n : Nat} (M : MethodA X.prog X.w X.K X.mg X.base k C "__repr__" D' ps sp) (hr : Room j X.A) (hg : X.A.guards = some []) (hj : k + n + 3 ≤ j) : CallR X (.builtin "repr") (rTupR X.K C sp n) := by
  rintro pins s σ H _ us Q I r ⟨G, a, vs, t, rfl, hq, hG, hz, hs, hQ⟩
  obtain ⟨_, rfl, rfl⟩ := r.one
  have T := Lay.Inv.tupInj I
  replace hs := hs T
  cases hs with
  | own h =>
    obtain ⟨⟨dx, fs, e⟩, _⟩ := h H hG
    exact (T.no _ _ _ _ _ hq e).elim
  | leaf h => cases h
  | @tup _ _ _ vs' ts ha h hl ht =>
    obtain ⟨its, rs, hT, _⟩ := I.tuple (h H hG)
    have ll := rs.length
    obtain ⟨m, dd, sl, eo⟩ := tup_obj hT
    have r1 : Room (k + n + 2) X.A.in1 := (Room.mono hr hj).in1
    refine call_repr_slot (by have := r1.units0; exact this) ⟨_, eo, rfl⟩ F.slot_tuple_repr (wpAny_call (codeAny_call_builtin_own (Code.quiet_builtin _ (by decide +kernel)) F.entry_tuple_repr (F.slot_tuple_repr.check _ _ _ _ _ _ _ _ ⟨_, eo, rfl⟩ (F.args_tuple_repr_1 _)
      (tup_shown (A := X.A.in1) (ts := ts) (b := 0) (R := callEnd _ _) (G := fun s => ∃ H, Inv X pins σ H s ∧ G H) (.inl rfl) hT hg (fun _ m => nomatch m) ⟨H, I, hG⟩ (paired_at (by simp [hl, ll]) fun i t x et ex => ?_) (by simp [hl, ll]) (by omega) (fun s t ⟨H, I, q⟩ => ⟨H, I.tok t, q⟩) fun s' u q => ?_))))
    · have hi := lt_of_get et
      obtain ⟨u, f1, r2⟩ := rs.get (i := i) (x := vs'[i]'(by omega)) (List.getElem?_eq_getElem _)
      have ex' : its[i]? = some x := by simpa using ex
      rw [ex'] at f1
      cases f1
      have r3 : Room (k + n + 1 + 1) X.A.in1 := r1
      exact M.under (ht i _ _ (List.getElem?_eq_getElem _) et) (Room.mono (Room.tup r3 _ (.inl rfl)) (by omega)) (guards_under_guard (isGuard_tuple_repr _) hg) (Off.cons (show Off [] [] from fun _ _ _ m => nomatch m) a _ _) (fun H s I => Env0.tup I.env0.in1 _ (.inl rfl)) r2
    · obtain ⟨H', I', q⟩ := q
      exact ⟨_, _, rfl, .str _, H', I', ⟨_, rfl⟩, hQ H' q⟩
end
/-! ### the same for trees -/
inductive LeafD : D → Str → Prop
  | int {i : Int} (h : i.natAbs.log2 < 1920) : LeafD (.int i) (toString i)
  | str {x : Str} (h : (reprText x).length ≤ sizeLine) : LeafD (.str x) (reprText x)
  | bl {b : Bool} : LeafD (.bl b) (if b then "True" else "False")
  | non : LeafD .non "None"
/-- the text of a tree, own instances within by their class's own repr -/
inductive ShI (C : Addr) (sp : PSp) (z : Z) : Nat → D → Str → Prop
  | own {n : Nat} {d : D} {t : Str} (h1 : ∃ ns ds, d = .ins C ns ds) (h : sp [d] z (fun r z' => r = .str t ∧ z' = z) noP) : ShI C sp z n d t
  | leaf {n : Nat} {d : D} {t : Str} (h : LeafD d t) : ShI C sp z n d t
  | tup {n : Nat} {ds : List D} {ts : List Str} (hl : ts.length = ds.length) (h : ∀ (j : Nat) (d : D) (t : Str), ds[j]? = some d → ts[j]? = some t → ShI C sp z n d t) : ShI C sp z (n + 1) (.tup ds) (tupleText ts)
theorem sizeOf_get {d : D} {ds : List D} {i : Nat} (h : ds[i]? = some d) : sizeOf d < sizeOf (D.tup ds) := by
  have := List.sizeOf_lt_of_mem (List.mem_of_getElem? h)
  rw [D.tup.sizeOf_spec]
  omega
theorem ShI.toH {K : PySem.W.Frag} {M : Addr → Prop} {H : Hp} {σ : L2.St} {ρ : List Sl} {z : Z} {O : Nat → Option Addr} {C : Addr} {sp : PSp} (w : Wd K M H σ ρ z O) (T : TupInj K H) {n : Nat} {d : D} {t : Str} (h : ShI C sp z n d t) :
    ∀ {as : List Addr} {v : V}, firm d → (∀ b ∈ as, ∃ d', firm d' ∧ Rep K (NN M z O) H d' (.ref b) ∧ sizeOf d < sizeOf d') → Rep K (NN M z O) H d v → HSh K C (lift K sp) (fun H' => GoE M H z O H' z O ∧ Wd K M H' σ ρ z O) as n v t := by
  induction h with
  | @own n d t h1 h =>
    intro as v f _ r
    obtain ⟨ns, ds, e⟩ := h1
    have r' := r
    rw [e] at r'
    obtain ⟨a, dx, vs, rfl, q1, q2, q3⟩ := RepP.ins (z := z) (.inl r')
    refine .own fun H' ⟨g, w'⟩ => ?_
    have s1 := Rep.mono g.ext _ _ r
    have s1' := s1
    rw [e] at s1'
    obtain ⟨_, _, _, u1, p1, _⟩ := RepP.ins (z := z) (.inl s1')
    cases u1
    refine ⟨⟨_, _, p1⟩, lift_at0 (R := fun d ρ z' => d = .str t ∧ z' = z) w' (.cons s1 .nil) h fun d2 z' v H2 hd g2 w2 rr => ?_⟩
    obtain ⟨rfl, rfl⟩ := hd
    obtain rfl := RepP.str (z := z') (.inl rr)
    exact ⟨rfl, g.trans g2, w2⟩
  | leaf h =>
    intro as v f _ r
    refine .leaf ?_
    cases h with
    | int h => obtain rfl := RepP.int (z := z) (.inl r); exact .int h
    | str h => obtain rfl := RepP.str (z := z) (.inl r); exact .str h
    | bl => obtain rfl := RepP.bl (z := z) (.inl r); exact .bl
    | non => obtain rfl := RepP.non (z := z) (.inl r); exact .non
  | @tup n ds ts hl h ih =>
    intro as v f ha r
    have r' := r
    rw [Rep] at r'
    obtain ⟨a, vs, rfl, p, q⟩ := r'
    have fs : firms ds := by rw [firm] at f; exact f
    refine .tup (fun m => ?_) (fun H' ⟨g, w'⟩ => (p.mono g.ext).sq) (by rw [hl, Reps.len q]) fun j v t hv et => ?_
    · obtain ⟨d', f', rd, hs⟩ := ha a m
      have := Rep.inj T _ _ _ f f' r rd
      rw [← this] at hs
      exact Nat.lt_irrefl _ hs
    · have hj := lt_of_get hv
      rw [Reps.len q] at hj
      obtain ⟨v', ev, rv⟩ := q.get (List.getElem?_eq_getElem hj)
      rw [hv] at ev; cases ev
      have ed := List.getElem?_eq_getElem hj
      refine ih j _ _ ed et (fs.get _ (List.getElem_mem hj)) (fun b m => ?_) rv
      rcases List.mem_cons.mp m with rfl | m
      · exact ⟨_, f, r, sizeOf_get ed⟩
      · obtain ⟨d', f', rd, hs⟩ := ha b m
        exact ⟨d', f', rd, Nat.lt_trans (sizeOf_get ed) hs⟩
/-- repr(t) of a tuple with own instances within -/
def dReprT (n : Nat) (C : Addr) (sp : PSp) (ta : DX D) : DX D := fun ρ z R RX => ta ρ z (fun d ρ1 z1 => ∃ ds t, d = .tup ds ∧ firm d ∧ t.length ≤ sizeLine ∧ ShI C sp z1 (n + 1) d t ∧ R (.str t) ρ1 z1) RX
theorem ap_dReprT (n : Nat) (C : Addr) (sp : PSp) (ta : DX D) (s0 : Sl) (ρ0 : List Sl) (z : Z) (R : D → List Sl → Z → Prop) (RX : KX) : dReprT n C sp ta (s0 :: ρ0) z R RX = ta (s0 :: ρ0) z (fun d ρ1 z1 => ∃ ds t, d = .tup ds ∧ firm d ∧ t.length ≤ sizeLine ∧ ShI C sp z1 (n + 1) d t ∧ R (.str t) ρ1 z1) RX := rfl
section
variable {X : Cx} {W : WX} {e : Expr} {pos : Pos} {j k : Nat} {C : Addr} {D' : Addr → FuncData → Prop} {ps : List Str} {sp : PSp}
theorem MethodA.dReprT {t : DX D} (n : Nat) (M : MethodA X.prog X.w X.K X.mg X.base k C "__repr__" D' ps (lift X.K sp)) (hr : Room j X.A) (hg : X.A.guards = some []) (hG : Gl X "repr") (hm : X.mg "repr" = none) (he : DE X W e t) (hj : k + n + 3 ≤ j := by decide)
    (hs : starEach [e] X.env = (false, eval e X.env) :: starEach [] X.env := by rfl) : DE X W (.Call (.Name "repr" p) [e] [] pos) (Lay.dReprT n C sp t) := pe_to (pe_callB (M.tupRepr hr hg hj) hG hm (by decide +kernel) (pa_cons he pa_nil hs) (by decide) (by decide) hs (by rfl)) fun σ H Q h => by
  obtain ⟨M, ρ, z, O, R, RX, w, h, x, k⟩ := h
  refine ⟨M, ρ, z, O, _, RX, w, h, x, fun d ρ1 z1 v H1 O1 ⟨ds, t, e, f, hz, hs, hR⟩ g1 w1 r1 => ?_⟩
  have q := r1
  rw [e] at q
  obtain ⟨a, vs, rfl, p, _⟩ := RepP.tup (z := z1) (.inl q)
  exact ⟨fun H' => GoE M H1 z1 O1 H' z1 O1 ∧ Wd X.K M H' σ ρ1 z1 O1, a, vs, t, rfl, p, ⟨GoE.refl, w1⟩, hz, fun T => hs.toH w1 T f (fun _ m => nomatch m) r1, fun H' ⟨g, w'⟩ => k _ ρ1 z1 _ H' O1 hR (g1.trans g) w' .s⟩
end
/-! ### equal, shown: lists of things -/
section
variable {C : Addr} {sp : PSp} {z : Z} {n m : Nat}
theorem EqI.strT {x : Str} : EqI C sp z n (.str x) (.str x) true := by
  have h : EqI C sp z n (.str x) (.str x) (x == x) := .str
  rwa [beq_self_eq_true] at h
theorem EqI.intT {x : Int} : EqI C sp z n (.int x) (.int x) true := by
  have h : EqI C sp z n (.int x) (.int x) (x == x) := .int
  rwa [beq_self_eq_true] at h
theorem firms_of {xs : List D} (h : ∀ x ∈ xs, firm x) : firms xs := by
  have := firms_map (f := id) (l := xs) h
  rwa [List.map_id] at this
theorem EqI.tupT {xs : List D} (h : ∀ x ∈ xs, EqI C sp z n x x true) : EqI C sp z (n + 1) (.tup xs) (.tup xs) true := by
  have f : Lay.firms xs := firms_of fun x m => (h x m).firms.1
  have q : EqI C sp z (n + 1) (.tup xs) (.tup xs) ((List.range (min xs.length xs.length)).all (fun _ => true) && xs.length == xs.length) :=
    .tup f f fun j x y hx hy => by rw [hx] at hy; cases hy; exact h x (List.mem_of_getElem? hx)
  have e : ((List.range (min xs.length xs.length)).all (fun _ => true) && xs.length == xs.length) = true := by simp
  rwa [e] at q
theorem tupleText_le {ts : List Str} (h : ∀ t ∈ ts, t.length ≤ m) : (tupleText ts).length ≤ (m + 2) * ts.length + 6 := by
  have hp : piled ts ≤ (m + 2) * ts.length := by
    induction ts with
    | nil => exact Nat.zero_le _
    | cons t ts ih =>
      have h1 := h t List.mem_cons_self
      have h2 := ih fun u mu => h u (List.mem_cons_of_mem _ mu)
      rw [piled_cons, List.length_cons, Nat.mul_add]
      omega
  have hj : (Str.join ", " ts).length ≤ piled ts := by
    cases ts with
    | nil => exact Nat.zero_le _
    | cons t ts => have := join_length_add (t :: ts) (List.cons_ne_nil _ _); omega
  unfold tupleText
  rw [strLen_append, strLen_append]
  have e1 : ((("(" : String) : Str)).length = 1 := rfl
  have e3 : (((if ts.length == 1 then ",)" else ")" : String) : Str)).length ≤ 2 := by split <;> decide
  omega
/-- a tuple's text, one for each item -/
theorem ShI.tupE {xs : List D} (h : ∀ x ∈ xs, ∃ t : Str, t.length ≤ m ∧ ShI C sp z n x t) : ∃ t : Str, t.length ≤ (m + 2) * xs.length + 6 ∧ ShI C sp z (n + 1) (.tup xs) t := by
  have : ∃ ts : List Str, ts.length = xs.length ∧ (∀ t ∈ ts, t.length ≤ m) ∧ ∀ (j : Nat) (d : D) (t : Str), xs[j]? = some d → ts[j]? = some t → ShI C sp z n d t := by
    induction xs with
    | nil => exact ⟨[], rfl, (fun _ m => nomatch m), fun j d t e => nomatch e⟩
    | cons x xs ih =>
      obtain ⟨ts, l, b, k⟩ := ih fun y my => h y (List.mem_cons_of_mem _ my)
      obtain ⟨t, bt, kt⟩ := h x List.mem_cons_self
      refine ⟨t :: ts, by rw [List.length_cons, List.length_cons, l], List.forall_mem_cons.mpr ⟨bt, b⟩, fun j d u e1 e2 => ?_⟩
      cases j with
      | zero => cases e1; cases e2; exact kt
      | succ j => exact k j d u e1 e2
  obtain ⟨ts, l, b, k⟩ := this
  exact ⟨_, l ▸ tupleText_le b, .tup l k⟩
theorem ShI.strE {x : Str} (hx : (reprText x).length ≤ m) (hm : m ≤ sizeLine) : ∃ t : Str, t.length ≤ m ∧ ShI C sp z n (.str x) t := ⟨_, hx, .leaf (.str (Nat.le_trans hx hm))⟩
end
end Lay

set_option Elab.async false
set_option linter.all false
set_option maxRecDepth 100000
set_option maxHeartbeats 2000000
namespace Lay
open PySem PySem.Spec PyProof.Rows L2
/-! ### bool(o) by the class's own len -/
/-- a class without an own __bool__ -/
def NoBool (K : PySem.W.Frag) (C : Addr) : Prop := PySem.W.findIn K (.ref C) "__bool__" = some none
section
open PySem.W PySem.Calls
variable {prog : Program} {w : World} {A : Around} {E : Value → Shared → Prop} {s : Shared} {K : Frag} {x C f : Addr} {ox : Obj} {od : Option Obj} {Q : Bool → Shared → Prop}
/-- what len answers, as a truth -/
def LenTruth (Q : Bool → Shared → Prop) (v : Value) (s : Shared) : Prop := match v with
  | .int n _ => (0 ≤ n ∧ n < 2 ^ 63) ∧ Q (n != 0) { s with toks := s.toks + 1 }
  | _ => False
theorem truth_by_len (X : K.In s.heap) (I : InstAt s.heap x ox C od) (nb : NoBool K C) (hs : findIn K (.ref C) "__len__" = some (some (.ref f))) (hf : isFn K (.ref f) = true)
    (h : wpAny (model prog w) A.in1 (call (.ref f) [.ref x]) (LenTruth Q) E s) : wpAny (model prog w) A (truthy (.ref x)) Q E s := by
  have len : wpAny (model prog w) A (runValue (.builtin "len" ⟨[.ref x], []⟩)) (fun r s' => ∃ n u, r = .int n u ∧ Q (n != 0) s') E s := by
    refine wpAny_runValue (codeAny_builtin entry_len ?_)
    rw [Around.under_plainId plain_len _]
    unfold Builtin.«len»
    refine wpAny_bind (m := oneArg "len" _) (wpAny_pure (wpAny_bind (m := callSpecial? (.ref x) (Str.ofString "__len__")) (special_fn X I hs (beq_iff_eq.mp hf) (wpAny_mono h (fun r s' hr => ?_) fun _ _ y => y))))
    match r, hr with
    | .int n u, ⟨hn, q⟩ =>
      refine wpAny_bind (wpAny_holding (wpAny_pure (wpAny_bind (wpAny_letGo ?_))))
      show wpAny _ _ (if n < 0 then _ else _) _ _ _
      rw [if_neg (Int.not_lt.mpr hn.1)]
      show wpAny _ _ (if n ≥ 2 ^ 63 then _ else _) _ _ _
      rw [if_neg (Int.not_le.mpr hn.2)]
      exact wpAny_bind (wpAny_mkInt (wpAny_pure ⟨_, _, rfl, q⟩))
  unfold truthy
  refine wpAny_bind (m := callSpecial? (.ref x) (Str.ofString "__bool__")) (wpAny_bind (wpAny_bind (I.type.here ((looks_findIn X nb).here (wpAny_pure ?_)))))
  refine wpAny_bind (wpAny_bind (I.type.here ((looks_findIn X hs).here ?_)))
  rw [show (some (Value.ref f)).isNone = false from rfl]
  refine wpAny_bind (wpAny_mono len (fun r s' hr => ?_) fun _ _ y => y)
  obtain ⟨n, u, rfl, q⟩ := hr
  exact wpAny_pure q
theorem bool_by_len {Q : Value → Shared → Prop} (X : K.In s.heap) (I : InstAt s.heap x ox C od) (nb : NoBool K C) (hs : findIn K (.ref C) "__len__" = some (some (.ref f))) (hf : isFn K (.ref f) = true)
    (h : wpAny (model prog w) A.in1.in1.in1 (call (.ref f) [.ref x]) (LenTruth fun b => Q (.bool b)) E s) : wpAny (model prog w) A (call (.type "bool") [.ref x]) Q E s := by
  refine callType_codes (T := "bool") (Bi := Builtin.«object.__init__») (Q₁ := fun r s₁ => ∃ b, r = .bool b ∧ Q r s₁) PySem.F.called_bool (PySem.F.typeCall_bool_1 _) PySem.F.entry_object_init ?_ ?_
  · refine codeAny_of_tree ?_
    show wpAny _ A.in1.in1 (do checkBuiltinCall "bool.__new__" ⟨[.type "bool", .ref x], []⟩; again (.builtin "bool.__new__" ⟨[.type "bool", .ref x], []⟩)) _ _ s
    refine wpAny_bind (wpAny_of_eq (PySem.F.newCall_bool_1 _) (wpAny_pure ⟨plainId_quiet (by decide +kernel) _, codeAny_builtin PySem.F.entry_bool_new ?_⟩))
    rw [Around.under_plainId (by decide +kernel) _]
    have t : wpAny (model prog w) A.in1.in1 (truthy (.ref x)) (fun b s' => Q (.bool b) s') E s := truth_by_len X I nb hs hf h
    have f1 := F.conv_sub_bool
    unfold Builtin.«bool.__new__»
    repeat (any_goals (first | assumption | (with_reducible refine wpAny_mono t (fun b s' q => ?_) fun _ _ y => y) | wp_step))
    exact ⟨b, rfl, q⟩
  · rintro obj s₁ ⟨b, rfl, hq⟩
    exact ⟨PySem.typeIs_bool _ _, PySem.F.args_object_init_2 _ _, object_init_meets PySem.F.called_bool.init.lookup PySem.F.called_bool.made (by decide) prog w A.in1 _ s₁ ⟨PySem.typeIs_bool _ _, rfl, hq⟩⟩
end
section
variable {X : Cx} {j k : Nat} {C : Addr} {D : Addr → FuncData → Prop} {ps : List Str} {sp : Sp}
theorem Method.bool (M : Method X.prog X.w X.K X.mg X.base CX0 k C "__len__" D ps sp) (nb : NoBool X.K C) (hr : Room j X.A) (hg : X.A.guards = some []) (hj : k + 3 ≤ j := by decide) : CallR X (.type "bool") fun xs H Q => ∃ a dx fs, xs = [.ref a] ∧ H a = some (.ins C dx fs) ∧
    sp [.ref a] H (fun v H' => ∃ n : Int, v = .int n ∧ 0 ≤ n ∧ n < 2 ^ 63 ∧ Q (.bl (n != 0)) H') E0 := by
  obtain ⟨f, fd, c, hm, F, b, G⟩ := M.ex
  rintro pins s σ H _ us Q I r ⟨a, dx, fs, rfl, ea, z⟩
  obtain ⟨_, rfl, rfl⟩ := r.one
  obtain ⟨mA, O, _⟩ := ins_get I.hok ea
  obtain ⟨od, J, _⟩ := O.look
  have r3 : Room k X.A.in1.in1.in1 := (show Room (k + 1) X.A.in1.in1 from (show Room (k + 1 + 1) X.A.in1 from (Room.mono hr hj).in1).in1).in1
  refine bool_by_len I.kIn J nb hm.at_ hm.fn (wpAny_mono (gcallA (vs := [V.ref a]) G r3 hg I.env0.in1.in1.in1 b I (.cons rfl .nil) z) (fun w s' hw => ?_) fun _ _ e => e)
  obtain ⟨v, H', I', rv, n, rfl, h0, h1, q⟩ := hw
  obtain ⟨t, rfl⟩ := (show ∃ t, w = Value.int n t from rv)
  exact ⟨⟨h0, h1⟩, .bl _, H', I'.tok _, rfl, q⟩
end
def dBoolO (C : Addr) (sp : PSp) (t : DX D) : DX D := fun ρ z R RX => t ρ z (fun d ρ1 z1 => (∃ ns ds, d = .ins C ns ds) ∧ sp [d] z1 (fun r z2 => match r with | .int n => (0 ≤ n ∧ n < 2 ^ 63) ∧ R (.bl (n != 0)) ρ1 z2 | _ => False) noP) RX
theorem ap_dBoolO (C : Addr) (sp : PSp) (t : DX D) (s0 : Sl) (ρ0 : List Sl) (z : Z) (R : D → List Sl → Z → Prop) (RX : KX) : dBoolO C sp t (s0 :: ρ0) z R RX = t (s0 :: ρ0) z (fun d ρ1 z1 => (∃ ns ds, d = .ins C ns ds) ∧ sp [d] z1 (fun r z2 => match r with | .int n => (0 ≤ n ∧ n < 2 ^ 63) ∧ R (.bl (n != 0)) ρ1 z2 | _ => False) noP) RX := rfl
/-- a == b, where a is an instance, or b is and a of a built-in kind -/
def dEqG (K : PySem.W.Frag) (C : Addr) (sp : PSp) (ta tb : DX D) : DX D := fun ρ z R RX => ta ρ z (fun d1 ρ1 z1 => tb ρ1 z1 (fun d2 ρ2 z2 =>
  ((∃ ns ds, d1 = .ins C ns ds) ∧ (∃ t, tyD K d2 t ∧ PySem.W.notFirst K C t = true) ∧ sp [d1, d2] z2 (fun r z3 => match r with | .bl b => R (.bl b) ρ2 z3 | _ => False) noP) ∨
  ((∃ ns ds, d2 = .ins C ns ds) ∧ plainD d1 ∧ sp [d2, d1] z2 (fun r z3 => match r with | .bl b => R (.bl b) ρ2 z3 | _ => False) noP)) RX) RX
theorem ap_dEqG (K : PySem.W.Frag) (C : Addr) (sp : PSp) (ta tb : DX D) (s0 : Sl) (ρ0 : List Sl) (z : Z) (R : D → List Sl → Z → Prop) (RX : KX) : dEqG K C sp ta tb (s0 :: ρ0) z R RX = (ta (s0 :: ρ0) z (fun d1 ρ1 z1 => tb ρ1 z1 (fun d2 ρ2 z2 =>
  ((∃ ns ds, d1 = .ins C ns ds) ∧ (∃ t, tyD K d2 t ∧ PySem.W.notFirst K C t = true) ∧ sp [d1, d2] z2 (fun r z3 => match r with | .bl b => R (.bl b) ρ2 z3 | _ => False) noP) ∨
  ((∃ ns ds, d2 = .ins C ns ds) ∧ plainD d1 ∧ sp [d2, d1] z2 (fun r z3 => match r with | .bl b => R (.bl b) ρ2 z3 | _ => False) noP)) RX) RX) := rfl
section
variable {X : Cx} {W : WX} {a b e : Expr} {pos : Pos} {j k : Nat} {C : Addr} {D' : Addr → FuncData → Prop} {ps : List Str} {sp : PSp}
theorem Method.dBool {t : DX D} (M : Method X.prog X.w X.K X.mg X.base CX0 k C "__len__" D' ps (lift X.K sp)) (nb : NoBool X.K C) (hr : Room j X.A) (hg : X.A.guards = some []) (hG : Gl X "bool") (hm : X.mg "bool" = none) (he : DE X W e t) (hj : k + 3 ≤ j := by decide)
    (hs : starEach [e] X.env = (false, eval e X.env) :: starEach [] X.env := by rfl) : DE X W (.Call (.Name "bool" p) [e] [] pos) (dBoolO C sp t) := pe_to (pe_callTy (M.bool nb hr hg hj) hG hm (by decide +kernel) (pa_cons he pa_nil hs) (by decide) (by decide) hs (by rfl)) fun σ H Q h => by
  obtain ⟨M, ρ, z, O, R, RX, w, h, x, k⟩ := h
  refine ⟨M, ρ, z, O, _, RX, w, h, x, fun d ρ1 z1 v H1 O1 ⟨⟨ns, ds, ed⟩, h1⟩ g1 w1 r1 => ?_⟩
  have r1' := r1
  rw [ed] at r1'
  obtain ⟨a, dx, vs, rfl, q1, q2, q3⟩ := RepP.ins (z := z1) (.inl r1')
  refine ⟨a, dx, _, rfl, q1, lift_at0 (R := fun d ρ z => match d with | .int n => (0 ≤ n ∧ n < 2 ^ 63) ∧ R (.bl (n != 0)) ρ z | _ => False) w1 (.cons r1 .nil) h1 fun d z' v H' hd g w r => ?_⟩
  cases d with
  | int n => obtain rfl := RepP.int (z := z') (.inl r); exact ⟨n, rfl, hd.1.1, hd.1.2, k _ ρ1 z' _ H' O1 hd.2 (g1.trans g) w .b⟩
  | _ => exact hd.elim
theorem OpR.or {f : Value → Value → Sem Value} {r s : R2} (h1 : OpR X f r) (h2 : OpR X f s) : OpR X f fun x y H Q => r x y H Q ∨ s x y H Q := by
  intro pins st σ H x y v u Q I rx ry h
  rcases h with h | h
  · exact h1 pins st σ H x y v u Q I rx ry h
  · exact h2 pins st σ H x y v u Q I rx ry h
theorem plain_ty {K : PySem.W.Frag} {z : Z} {H : Hp} {N : Addr → Prop} {d : D} {v : V} (hp : plainD d) (r : Rep K N H d v) : plainV v ∨ (∃ t ws, v = .ref t ∧ SqT K H t ws) ∨ ∃ t ws, v = .ref t ∧ SqL K H t ws := by
  cases d with
  | str y => obtain rfl := RepP.str (z := z) (.inl r); exact .inl trivial
  | int y => obtain rfl := RepP.int (z := z) (.inl r); exact .inl trivial
  | bl y => obtain rfl := RepP.bl (z := z) (.inl r); exact .inl trivial
  | non => obtain rfl := RepP.non (z := z) (.inl r); exact .inl trivial
  | tup y => obtain ⟨t, ws, rfl, q, _⟩ := RepP.tup (z := z) (.inl r); exact .inr (.inl ⟨t, ws, rfl, q⟩)
  | lst y => obtain ⟨t, ws, rfl, q, _⟩ := RepP.lst (z := z) (.inl r); exact .inr (.inr ⟨t, ws, rfl, SqL.of q⟩)
  | _ => exact hp.elim
theorem UG.eqG {K : PySem.W.Frag} {ta tb : DX D} {σ : L2.St} {H : Hp} {Q : VK} (h : UG K W (relE K) (dEqG K C sp ta tb) σ H Q) :
    tOp (fun x y H Q => (∃ a dx fs t, x = .ref a ∧ H a = some (.ins C dx fs) ∧ TyX K H y t ∧ PySem.W.notFirst K C t = true ∧ lift K sp [x, y] H (fun v H' => ∃ b : Bool, v = .bl b ∧ Q (.bl (id b)) H') E0) ∨ rReqO K C (lift K sp) x y H Q) (UG K W (relE K) ta) (UG K W (relE K) tb) σ H Q := by
  obtain ⟨M, ρ, z, O, R, RX, w, h, x, k⟩ := h
  refine ⟨M, ρ, z, O, _, RX, w, h, x, fun d1 ρ1 z1 v1 H1 O1 h1 g1 w1 r1 => ⟨M, ρ1, z1, O1, _, RX, w1, h1, x.after g1.toGo, fun d2 ρ2 z2 v2 H2 O2 hh g2 w2 r2 => ?_⟩⟩
  have s1 := Rep.mono g2.ext _ _ r1
  have fin : ∀ {ds vs}, Reps K (NN M z2 O2) H2 ds vs → sp ds z2 (fun r z3 => match r with | .bl b => R (.bl b) ρ2 z3 | _ => False) noP → lift K sp vs H2 (fun v H' => ∃ b : Bool, v = .bl b ∧ Q (.bl b) H') E0 := fun {ds vs} rr h2 =>
    lift_at0 (R := fun d ρ z => match d with | .bl b => R (.bl b) ρ z | _ => False) w2 rr h2 fun d z' v H' hd g w r => by
      cases d with
      | bl y => obtain rfl := RepP.bl (z := z') (.inl r); exact ⟨y, rfl, k _ ρ2 z' _ H' O2 hd (g1.trans (g2.trans g)) w .b⟩
      | _ => exact hd.elim
  rcases hh with ⟨⟨ns, ds, ed⟩, ⟨t, ht, hn⟩, h2⟩ | ⟨⟨ns, ds, ed⟩, hp, h2⟩
  · have q := s1
    rw [ed] at q
    obtain ⟨a, dx, vs, rfl, q1, _⟩ := RepP.ins (z := z2) (.inl q)
    exact .inl ⟨a, dx, _, t, rfl, q1, tyX_of (z := z2) (.inl r2) ht, hn, fin (.cons s1 (.cons r2 .nil)) h2⟩
  · have q := r2
    rw [ed] at q
    obtain ⟨a, dx, vs, rfl, q1, _⟩ := RepP.ins (z := z2) (.inl q)
    exact .inr ⟨a, dx, _, rfl, plain_ty (z := z2) hp s1, q1, fin (.cons r2 (.cons s1 .nil)) h2⟩
theorem Method.dEqG {K : PySem.W.Frag} {ta tb : DX D} (hK : X.K = K) (M : Method X.prog X.w X.K X.mg X.base CX0 k C "__eq__" D' ps (lift X.K sp)) (Rf : Refl X.K C) (hr : Room j X.A) (hg : X.A.guards = some []) (ha : DE X W a ta) (hb : DE X W b tb) (hj : k ≤ j := by decide) : DE X W (.Compare a [.Eq] [b] pos) (Lay.dEqG K C sp ta tb) := by
  subst hK
  exact pe_to (pe_cmpR (OpR.or (Method.eq (o := .Eq) M (fun _ _ => rfl) hr hg hj) (Method.req M Rf hr hg hj)) ha hb (nomark _)) fun _ _ _ h => h.eqG
end
end Lay

set_option Elab.async false
set_option linter.all false
set_option maxRecDepth 100000
set_option maxHeartbeats 2000000
namespace Lay
open PySem PySem.Spec PyProof.Rows L2
/-! ### i << j -/
def shlD : Op2
  | .int i, .int j, k => CPow i j ∧ k (.int (i * 2 ^ j.toNat))
  | _, _, _ => False
theorem od_shl {X : Cx} : OpR X (binaryOp .LShift) (OpU X.K shlD) := by
  rintro pins s σ H x y v u Q I rx ry ⟨N, z, d1, d2, R, al, r1, r2, h, k⟩
  cases d1 <;> cases d2 <;> first | exact h.elim | skip
  obtain rfl := r1.int
  obtain rfl := r2.int
  exact op_shl pins s σ H _ _ v u Q I rx ry ⟨_, _, rfl, rfl, h.1, k _ _ H h.2 same0 .i⟩
theorem e_shlD1 : ∀ i j k, shlD (D.int i) (D.int j) k = (CPow i j ∧ k (.int (i * 2 ^ j.toNat))) := by intros; rfl
/-! ### makers with defaults, all by names -/
section
variable {X : Cx} {W : WX} {pos p : Pos} {CX : CXT} {k j : Nat} {ks ps : List Str} {x : Str} {C : Addr} {D' : Addr → FuncData → Prop} {isp : ISp} {kws : List Keyword} {gV : List V → List V → List V} {gD : List D → List D → List D}
theorem Maker.dkw0G {tk : DX (List D)} (M : Maker X.prog X.w X.K X.mg X.base CX k x C D' ps (liftI X.K C isp)) (kd : KwM 0 ks.length gV gD) (hb : ∀ (f : Addr) (fd : FuncData), D' f fd → ∃ g, KwB X.K fd ps 1 ks g gV) (hG : Gl X x) (hr : Room j X.A) (hg : X.A.guards = some [])
    (hx : ∀ σ, PassesAt CX X σ (WE W σ)) (hkw : DKw X W kws tk) (hj : k + 1 ≤ j := by decide) (hall : (backToKw pos (keywordEach kws X.env)).all (·.1.isSome) = true := by rfl) (hks : (backToKw pos (keywordEach kws X.env)).filterMap (·.1) = ks := by rfl)
    (hdb : (x == ("__debug__" : Str)) = false := by decide) (hpl : ((backTo pos (starEach [] X.env)).any (·.1) || (backToKw pos (keywordEach kws X.env)).any (·.1.isNone)) = false := by rfl) : DE X W (.Call (.Name x p) [] kws pos) (dMakeKw C 0 ks.length gD isp dNil tk) := by
  obtain ⟨f, fd, h1, h2, h3, h4, h5⟩ := M.ex
  obtain ⟨g, q⟩ := hb f fd h3
  exact Maker.dkw0 (D' := fun f' fd' => f' = f ∧ fd' = fd) (g := g) ⟨⟨f, fd, h1, h2, ⟨rfl, rfl⟩, h4, h5⟩⟩ kd (fun _ _ z => by obtain ⟨rfl, rfl⟩ := z; exact q) hG hr hg hx hkw hj hall hks hdb hpl
theorem Maker.dkw0EG {tk : DX (List D)} {E : L2.St → XK} (M : Maker X.prog X.w X.K X.mg X.base CX k x C D' ps (liftI X.K C isp)) (kd : KwM 0 ks.length gV gD) (hb : ∀ (f : Addr) (fd : FuncData), D' f fd → ∃ g, KwB X.K fd ps 1 ks g gV) (hG : Gl X x) (hr : Room j X.A) (hg : X.A.guards = some [])
    (hx : ∀ σ, PassesAt CX X σ (E σ)) (hkw : DKw X W kws tk) (hj : k + 1 ≤ j := by decide) (hall : (backToKw pos (keywordEach kws X.env)).all (·.1.isSome) = true := by rfl) (hks : (backToKw pos (keywordEach kws X.env)).filterMap (·.1) = ks := by rfl)
    (hdb : (x == ("__debug__" : Str)) = false := by decide) (hpl : ((backTo pos (starEach [] X.env)).any (·.1) || (backToKw pos (keywordEach kws X.env)).any (·.1.isNone)) = false := by rfl) : DE X W (.Call (.Name x p) [] kws pos) (dMakeKw0 C 0 ks.length gD isp dNil tk) := by
  obtain ⟨f, fd, h1, h2, h3, h4, h5⟩ := M.ex
  obtain ⟨g, q⟩ := hb f fd h3
  exact Maker.dkw0E (D' := fun f' fd' => f' = f ∧ fd' = fd) (g := g) ⟨⟨f, fd, h1, h2, ⟨rfl, rfl⟩, h4, h5⟩⟩ kd (fun _ _ z => by obtain ⟨rfl, rfl⟩ := z; exact q) hG hr hg hx hkw hj hall hks hdb hpl
end
/-! ### an __init__ with defaults -/
section
variable {P : Program} {w : World} {K : PySem.W.Frag} {mg : Str → Option Value} {base : Heap} {x qual : Str} {st : Stmt} {f : Addr} {fd : FuncData} {N ps : List Str} {k : Nat} {dvs : List V} {C : Addr} {isp : ISp}
theorem ibodyXD (F : FunD K x qual (defArgs st) (defBody st) (defScope st) dvs [] f fd) (S : FnScope N ps (defScope st)) (ln : ∀ ds z R RX, isp ds z R RX → ds.length + 1 = ps.length)
    (hb : ∀ (cdv : Value) (A : Around) (outer : List Env) (s : Shared) (H : Hp) (E : XK), Room k (A.deeper (envOfC qual (defScope st) s.heap.objs.size f cdv)) → (A.deeper (envOfC qual (defScope st) s.heap.objs.size f cdv)).guards = some [] →
      ∃ t, DSs (cxOf (L2.CX P w) P w K mg base N qual (defScope st) f cdv A outer s H E) (fun cls d _ H => E cls d H) (defBody st) t ∧
        ∀ ds z R RX (x : Addr), isp ds z R RX → t { nx := fun ρ z' => ∃ ns es, ρ[0]? = some (.obj x C ns es) ∧ R ns es z', rt := fun _ _ => False, ex := fun Cx ns es ρ z' => (∃ ns' es', ρ[0]? = some (.obj x C ns' es')) ∧ RX Cx ns es z' } (startI N x C ds) z) :
    FnG P w K mg base (L2.CX P w) (k + 1) f fd ps (liftI K C isp) := by
  refine gbodyD2 F S (fun vs H Q E h => ?_) fun cdv A outer s H vs Q E hr hg h => ?_
  · unfold liftI at h
    obtain ⟨x, dx, us, M, ds, z, R, RX, rfl, _, _, _, _, _, _, r, h, _⟩ := h
    rw [List.length_cons, ← r.length]; exact ln _ _ _ _ h
  · obtain ⟨t, ht, hh⟩ := hb cdv A outer s H E hr hg
    refine ⟨_, ht, ?_⟩
    unfold liftI at h
    obtain ⟨x, dx, us, M, ds, z, R, RX, rfl, hx, al, nm, np, pot, pm, r, h, k1, k2⟩ := h
    refine ⟨M, startI N x C ds, z, oneO x, _, Wd.begI hx al nm np pot pm r, hh ds z R RX x h, ?_⟩
    refine ⟨fun ρ' z' σ' H' O' ⟨ns, es, e, h⟩ g w => ?_, fun _ _ _ _ _ h => h.elim, fun _ _ _ _ _ h => h.elim, fun _ _ _ _ _ _ _ h => h.elim, fun Cx ns es ρ' z' od H' O' σ' ⟨⟨ns', es', e⟩, h⟩ g w ex => ?_⟩
    · obtain ⟨q1, q2, dx', vs, q3, q4, q5⟩ := obj_at w e
      exact k1 ns es z' vs dx' H' h (g.finI w q2) q3 q4 (Reps.mono (nnI q1) _ _ q5)
    · obtain ⟨q1, q2, _⟩ := obj_at w e
      exact k2 Cx ns es z' od H' h (g.finI w q2) (ex.mono (nnI q1))
end
end Lay

set_option Elab.async false
set_option linter.all false
set_option maxRecDepth 100000
set_option maxHeartbeats 2000000
namespace Lay
open PySem PySem.Spec PyProof.Rows L2 SeqAt
/-! ### xs != [], whatever lies within the list -/
def eqE (f : Bool → Bool) : Op2
  | .lst xs, .lst [], k => k (.bl (f xs.isEmpty))
  | _, _, _ => False
theorem e_eqE (f : Bool → Bool) (xs : List D) (k : D → Prop) : eqE f (.lst xs) (.lst []) k = k (.bl (f xs.isEmpty)) := rfl
theorem od_neE {X : Cx} (hu : X.A.units < cLine) : OpR X (compareOp .NotEq) (OpU X.K (eqE not)) := by
  rintro pins s σ H x y v u Q I rx ry ⟨N, z, d1, d2, R, al, r1, r2, h, k⟩
  obtain ⟨xs, rfl, rfl, h⟩ : ∃ xs, d1 = .lst xs ∧ d2 = .lst [] ∧ R (.bl (not xs.isEmpty)) := by
    unfold eqE at h
    split at h
    · exact ⟨_, rfl, rfl, h⟩
    · exact h.elim
  · obtain ⟨a, vs, rfl, ea, es⟩ := r1.lst
    obtain ⟨b, ws, rfl, eb, fs⟩ := r2.lst
    obtain rfl : v = Value.ref a := rx
    obtain rfl : u = Value.ref b := ry
    obtain ⟨_, its, n, _, l1, o1⟩ := I.lstM ea
    obtain ⟨_, jts, m, _, l2, o2⟩ := I.lstM eb
    have hl : s.heap.IsList a its.toArray := ⟨_, o1, rfl, n, rfl⟩
    have hb : s.heap.IsList b jts.toArray := ⟨_, o2, rfl, m, rfl⟩
    have h0 : ws = [] := fs
    have l0 : jts.length = 0 := by rw [← l2, h0]; rfl
    have lx : vs.length = xs.length := Reps.len es
    have q := k _ _ H h same0 .b
    cases xs with
    | nil =>
      have li : its.length = 0 := by rw [← l1, lx]; rfl
      have r := RcNeAt.lists (A := X.A) (e := fun _ => true) hl hb (by simp [l0, li]) hu (fun j h1 => absurd h1 (by simp [li])) X.prog X.w X.xe (EP X pins σ Q)
      rw [show (its.toArray.size) = 0 by simp [li]] at r
      exact r ⟨.bl false, H, I, rfl, q⟩
    | cons d ds =>
      have li : its.length ≠ 0 := by rw [← l1, lx]; simp
      exact RcNeAt.lists_lengths hl hb (by simp [l0, li]) hu X.prog X.w X.xe (EP X pins σ Q) ⟨.bl true, H, I, rfl, q⟩
end Lay

set_option Elab.async false
set_option linter.all false
set_option maxRecDepth 100000
set_option maxHeartbeats 2000000
namespace Lay
open PySem PySem.Spec PyProof.Rows L2
/-! ### x, y, u = [..], e, e: the first a list of one's own -/
section
variable {X : Cx} {W : WX} {a b c : Expr} {pos : Pos}
def dPar3O (i j l : Nat) (t1 t2 : DX (List D)) : DTS := fun R ρ z => t1 ρ z (fun xs ρ1 z1 => t2 ρ1 z1 (fun ds ρ2 z2 => match ds with | [y, u] => i < ρ2.length ∧ R.nx (((ρ2.set i (.own xs)).set j (.val y)).set l (.val u)) z2 | _ => False) R.ex) R.ex
theorem ap_dPar3O (i j l : Nat) (t1 t2 : DX (List D)) (R : DEnds) (s0 : Sl) (ρ0 : List Sl) (z : Z) : dPar3O i j l t1 t2 R (s0 :: ρ0) z = t1 (s0 :: ρ0) z (fun xs ρ1 z1 => t2 ρ1 z1 (fun ds ρ2 z2 => match ds with | [y, u] => i < ρ2.length ∧ R.nx (((ρ2.set i (.own xs)).set j (.val y)).set l (.val u)) z2 | _ => False) R.ex) R.ex := rfl
theorem ds_par3O {i j l : Nat} {x y zz : Str} {t1 t2 : DX (List D)} {px py pz pt : Pos} {kt k2 pt2} (hc : X.calm = true) (hN : X.N.Nodup) (hi : X.N[i]? = some x) (hj : X.N[j]? = some y) (hl : X.N[l]? = some zz) (hij : i ≠ j) (hil : i ≠ l) (hjl : j ≠ l)
    (hx : X.env.scope.names.lookup x = some .local) (hy : X.env.scope.names.lookup y = some .local) (hz : X.env.scope.names.lookup zz = some .local) (h1 : DN X W a t1) (h2 : DAs X W [b, c] t2)
    (hw : swappedStores [.Tuple [.Name x px, .Name y py, .Name zz pz] kt pt] (.Tuple [a, b, c] k2 pt2) X.env = pure (some [x, y, zz]))
    (hs : swapsWithSole [.Tuple [.Name x px, .Name y py, .Name zz pz] kt pt] (.Tuple [a, b, c] k2 pt2) pos.line X.env = pure false := by rfl)
    (he : starEach [a, b, c] X.env = (false, eval a X.env) :: starEach [b, c] X.env := by rfl) :
    DS X W (.Assign [.Tuple [.Name x px, .Name y py, .Name zz pz] kt pt] (.Tuple [a, b, c] k2 pt2) pos) (dPar3O i j l t1 t2) := ps_to (ps_par3 hc hN hi hj hl hij hil hjl hx hy hz (pa_cons h1 h2 he) hw hs) fun D σ H ⟨M, ρ, z, O, R, w, h, k⟩ => by
  refine ⟨M, ρ, z, O, _, R.ex, w, h, k.ex, fun xs ρ1 z1 p1 vs1 H1 H1' O1 h1 g1 w1 s1 n1 e1 r1 => ?_⟩
  have np1 : ¬ M p1 := fun m => w1.al p1 m n1
  obtain ⟨wh, gh⟩ := w1.hideS n1 s1 (by rw [e1]; exact Option.some_ne_none _)
  have rh : Reps X.K (NN (Lay.more M p1) z1 O1) H1' xs vs1 := Reps.mono ⟨fun a u h _ => s1 a u h, fun a h => by
    rcases h.more with q | q
    · exact .inl q
    · exact .inr (by rw [q]; exact n1)⟩ _ _ r1
  have lt : ∀ a, H1' a = none → H1 a = none := fun a q => Classical.byContradiction fun n => by
    cases e : H1 a with
    | none => exact n e
    | some u => rw [s1 a u e] at q; cases q
  have kx : XOk X.K M W H1 z1 O1 R.ex := fun C ns ds ρ' z' od H' O' σ' hx g w' ex => k.ex C ns ds ρ' z' od H' O' σ' hx (g1.toGo.trans g) w' ex
  refine ⟨Lay.more M p1, ρ1, z1, O1, _, R.ex, wh, h1, kx.hide n1 s1, fun ds ρ2 z2 vs2 H2 O2 h2 g2 w2 r2 => ?_⟩
  match ds, h2 with
  | [d1, d2], ⟨li, h2⟩ =>
    have ep1 : H2 p1 = some (.lst vs1) := g2.km p1 _ (.inr rfl) e1
    have wi := w2.unhide np1 i li ep1 (Reps.mono g2.ext _ _ rh)
    replace r2 : Reps _ _ _ _ _ := r2
    rw [Reps] at r2
    obtain ⟨v, vr, rfl, r2, r3⟩ := r2
    rw [Reps] at r3
    obtain ⟨u, vr, rfl, r3, r4⟩ := r3
    rw [Reps] at r4
    subst r4
    have up : ∀ {d : Lay.D} {v : V}, Rep X.K (NN (Lay.more M p1) z2 O2) H2 d v → Rep X.K (NN M z2 fun j => if j = i then some p1 else O2 j) H2 d v := fun r => Rep.mono ⟨fun a o h _ => h, fun a h => by
      rcases h.on with q | q
      · exact .inl q.less
      · exact .inl (.inl (.inr q))⟩ _ _ r
    refine ⟨_, v, u, rfl, k.nx _ z2 _ H2 _ h2 ?_ ((wi.set j (up r2)).set l (Rep.mono GoE.off.ext _ _ (up r3)))⟩
    refine g1.toGo.trans (Go.trans (H1 := H2) ⟨fun a u h n => g2.st a u (s1 a u h) fun q => q.more.elim n fun e => (by rw [e, n1] at h; cases h), fun a u m h => g2.km a u (.inl m) (s1 a u h), fun a h => ?_, fun a h => (g2.zp a h).imp id (lt a), fun a h => g2.al a (gh.al a h)⟩ (GoE.off.trans GoE.off).toGo)
    rcases h.on with q | q
    · rcases g2.nw a q.less with q | q
      · rcases q.more with q | q
        · exact .inl q
        · exact .inr (by rw [q]; exact n1)
      · exact .inr (lt a q)
    · exact .inr (by rw [q]; exact n1)
theorem ds_asg3O {i j l : Nat} {x y zz : Str} {t1 t2 : DX (List D)} {px py pz pt : Pos} {kt k2 pt2} (hc : X.calm = true) (hN : X.N.Nodup) (hi : X.N[i]? = some x) (hj : X.N[j]? = some y) (hl : X.N[l]? = some zz)
    (hx : Loc X.env.scope x) (hy : Loc X.env.scope y) (hz : Loc X.env.scope zz) (h1 : DN X W a t1) (h2 : DAs X W [b, c] t2)
    (hs : swapsWithSole [.Tuple [.Name x px, .Name y py, .Name zz pz] kt pt] (.Tuple [a, b, c] k2 pt2) pos.line X.env = pure false := by rfl)
    (hw : swappedStores [.Tuple [.Name x px, .Name y py, .Name zz pz] kt pt] (.Tuple [a, b, c] k2 pt2) X.env = pure none := by rfl)
    (hq : (assignEach [.Tuple [.Name x px, .Name y py, .Name zz pz] kt pt] X.env).map (·.2) = [assign (.Tuple [.Name x px, .Name y py, .Name zz pz] kt pt) X.env] := by rfl)
    (hn : (assignEach [.Name x px, .Name y py, .Name zz pz] X.env).length = 3 := by rfl) (hst : (assignEach [.Name x px, .Name y py, .Name zz pz] X.env).findIdx? (·.1) = none := by rfl)
    (q1 : (assignEach [.Name x px, .Name y py, .Name zz pz] X.env).map (·.2) = assign (.Name x px) X.env :: (assignEach [.Name y py, .Name zz pz] X.env).map (·.2) := by rfl)
    (q2 : (assignEach [.Name y py, .Name zz pz] X.env).map (·.2) = assign (.Name y py) X.env :: (assignEach [.Name zz pz] X.env).map (·.2) := by rfl)
    (q3 : (assignEach [.Name zz pz] X.env).map (·.2) = assign (.Name zz pz) X.env :: (assignEach [] X.env).map (·.2) := by rfl)
    (f1 : X.fn x = true ∨ X.env.scope.names.lookup x = some .local := by first | exact .inl rfl | exact .inr rfl | assumption) (f2 : X.fn y = true ∨ X.env.scope.names.lookup y = some .local := by first | exact .inl rfl | exact .inr rfl | assumption)
    (f3 : X.fn zz = true ∨ X.env.scope.names.lookup zz = some .local := by first | exact .inl rfl | exact .inr rfl | assumption)
    (he : starEach [a, b, c] X.env = (false, eval a X.env) :: starEach [b, c] X.env := by rfl) :
    DS X W (.Assign [.Tuple [.Name x px, .Name y py, .Name zz pz] kt pt] (.Tuple [a, b, c] k2 pt2) pos) (dPar3O i j l t1 t2) := ps_to (ps_asg (pe_tupN (pa_cons h1 h2 he)) (pg_tup hc (pgs_cons (pg_name hN hi hx f1) (pgs_cons (pg_name hN hj hy f2) (pgs_cons (pg_name hN hl hz f3) pgs_nil q3) q2) q1) hn hst) hs hw hq) fun D σ H ⟨M, ρ, z, O, R, w, h, k⟩ => by
  refine ⟨M, ρ, z, O, _, R.ex, w, h, k.ex, fun xs ρ1 z1 p1 vs1 H1 H1' O1 h1 g1 w1 s1 n1 e1 r1 => ?_⟩
  have np1 : ¬ M p1 := fun m => w1.al p1 m n1
  obtain ⟨wh, gh⟩ := w1.hideS n1 s1 (by rw [e1]; exact Option.some_ne_none _)
  have rh : Reps X.K (NN (Lay.more M p1) z1 O1) H1' xs vs1 := Reps.mono ⟨fun a u h _ => s1 a u h, fun a h => by
    rcases h.more with q | q
    · exact .inl q
    · exact .inr (by rw [q]; exact n1)⟩ _ _ r1
  have lt : ∀ a, H1' a = none → H1 a = none := fun a q => Classical.byContradiction fun n => by
    cases e : H1 a with
    | none => exact n e
    | some u => rw [s1 a u e] at q; cases q
  have kx : XOk X.K M W H1 z1 O1 R.ex := fun C ns ds ρ' z' od H' O' σ' hx g w' ex => k.ex C ns ds ρ' z' od H' O' σ' hx (g1.toGo.trans g) w' ex
  refine ⟨Lay.more M p1, ρ1, z1, O1, _, R.ex, wh, h1, kx.hide n1 s1, fun ds ρ2 z2 vs2 H2 O2 h2 g2 w2 r2 => ?_⟩
  match ds, h2 with
  | [d1, d2], ⟨li, h2⟩ =>
    have ep1 : H2 p1 = some (.lst vs1) := g2.km p1 _ (.inr rfl) e1
    have wi := w2.unhide np1 i li ep1 (Reps.mono g2.ext _ _ rh)
    replace r2 : Reps _ _ _ _ _ := r2
    rw [Reps] at r2
    obtain ⟨v, vr, rfl, r2, r3⟩ := r2
    rw [Reps] at r3
    obtain ⟨u, vr, rfl, r3, r4⟩ := r3
    rw [Reps] at r4
    subst r4
    have up : ∀ {d : Lay.D} {v : V}, Rep X.K (NN (Lay.more M p1) z2 O2) H2 d v → Rep X.K (NN M z2 fun j => if j = i then some p1 else O2 j) H2 d v := fun r => Rep.mono ⟨fun a o h _ => h, fun a h => by
      rcases h.on with q | q
      · exact .inl q.less
      · exact .inl (.inl (.inr q))⟩ _ _ r
    refine ⟨by show (3 : Nat) ≤ _; decide, fun p3 H3 hp3 s3 e3 => ?_⟩
    obtain ⟨wi', gi⟩ := wi.grow s3
    refine ⟨p3, _, rfl, SqT.of e3, rfl, _, _, rfl, _, _, rfl, _, _, rfl, rfl, k.nx _ z2 _ H3 _ h2 ?_ ((wi'.set j (Rep.mono gi.ext _ _ (up r2))).set l (Rep.mono GoE.off.ext _ _ (Rep.mono gi.ext _ _ (up r3))))⟩
    refine g1.toGo.trans (Go.trans (H1 := H2) ⟨fun a u h n => g2.st a u (s1 a u h) fun q => q.more.elim n fun e => (by rw [e, n1] at h; cases h), fun a u m h => g2.km a u (.inl m) (s1 a u h), fun a h => ?_, fun a h => (g2.zp a h).imp id (lt a), fun a h => g2.al a (gh.al a h)⟩ (gi.trans (GoE.off.trans GoE.off)).toGo)
    rcases h.on with q | q
    · rcases g2.nw a q.less with q | q
      · rcases q.more with q | q
        · exact .inl q
        · exact .inr (by rw [q]; exact n1)
      · exact .inr (lt a q)
    · exact .inr (by rw [q]; exact n1)
end
end Lay

set_option Elab.async false
set_option linter.all false
set_option maxRecDepth 100000
set_option maxHeartbeats 2000000
namespace Lay
open PySem PySem.Spec PyProof.Rows L2
/-! ### max(t), min(t) of a tuple of whole numbers -/
theorem intsAre_at : ∀ {its : List Value} {ns : List Int}, IntsAre its ns → ∀ {i : Nat} {v : Value}, its[i]? = some v → ∃ t, v = .int (ns.getD i 0) t
  | _, _, .cons n t h, 0, v, e => ⟨t, by cases e; rfl⟩
  | _, _, .cons n t h, i + 1, v, e => intsAre_at h (i := i) e
theorem intsAre_len : ∀ {its : List Value} {ns : List Int}, IntsAre its ns → its.length = ns.length
  | _, _, .nil => rfl
  | _, _, .cons n t h => congrArg (· + 1) (intsAre_len h)
section
variable {prog : Program} {w : World} {A : Around} {E : Value → Shared → Prop} {s : Shared} {l : Addr} {its : List Value} {ns : List Int} {Q : Value → Shared → Prop}
theorem tup_iter (hl : s.heap.IsTuple l its.toArray) {Q : Value → Shared → Prop} (k : ∀ s2 : Shared, s2 = { s with heap := s.heap.push { cls := .type "tuple_iterator", data := .fields #[.ref l, .int 0 0] } } → s2.heap.IsTupleIter s.heap.objs.size l 0 → s2.heap.IsTuple l its.toArray → l ≠ s.heap.objs.size → (∀ b, b ∈ [s.heap.objs.size, l] → b < s2.heap.objs.size) → Q (.ref s.heap.objs.size) s2) :
    wpAny (model prog w) A (pyIter (.ref l)) Q E s := by
  have hlt : l < s.heap.objs.size := by obtain ⟨o, e, _⟩ := hl; exact Heap.lt_size e
  refine wpAny_pyIter_tuple hl (k _ rfl ⟨_, Heap.get?_push_size _ rfl, rfl, rfl⟩ (hl.push _) (Nat.ne_of_lt hlt) fun b hb => ?_)
  show b < (s.heap.push _).objs.size
  rw [Heap.size_push]
  simp only [List.mem_cons, List.not_mem_nil, or_false] at hb
  rcases hb with rfl | rfl
  · exact Nat.lt_succ_self _
  · exact Nat.lt_succ_of_lt hlt
theorem getD_in {ns : List Int} {i : Nat} (h : i < ns.length) : ns.getD i 0 ∈ ns := by
  rw [List.getD_eq_getElem?_getD, List.getElem?_eq_getElem h]; exact List.getElem_mem h
theorem in_getD {ns : List Int} {a : Int} (h : a ∈ ns) : ∃ j, j < ns.length ∧ ns.getD j 0 = a := by
  obtain ⟨j, hj, e⟩ := List.mem_iff_getElem.mp h
  exact ⟨j, hj, by rw [List.getD_eq_getElem?_getD, List.getElem?_eq_getElem hj, ← e]; rfl⟩
theorem maxT_raw (hh : A.handled = none) (hl : s.heap.IsTuple l its.toArray) (hi : IntsAre its ns) (hne : 0 < ns.length)
    (h : ∀ (h' : Heap) (tk : Nat) (M : Int) (t' : Tok), (∀ b o, s.heap.get? b = some o → h'.get? b = some o) → M ∈ ns → (∀ a ∈ ns, a ≤ M) → Q (.int M t') { s with heap := h', toks := tk }) :
    wpAny (model prog w) A (call (.builtin "max") [.ref l]) Q E s := by
  have hlen := intsAre_len hi
  refine call_max_walk (tup_iter hl fun s2 e st1 st2 hne2 hfp => ?_)
  subst e
  refine ⟨_, [s.heap.objs.size, l], [s.heap.objs.size], its.toArray.size, fun i v => its.toArray[i]? = some v, fun i h => h.IsTupleIter s.heap.objs.size l i ∧ h.IsTuple l its.toArray, fun i j => decide (ns.getD i 0 > ns.getD j 0), rfl, Walks.tuple (A := A.in1) hh _ l hne2 its.toArray, ⟨st1, st2⟩, hfp, by rw [List.size_toArray]; omega, CmpOf.ints_gt (fun i => ns.getD i 0) (fun i v e => intsAre_at hi (by simpa using e)), fun v h' tk hv hk => ?_⟩
  obtain ⟨t, rfl⟩ := intsAre_at hi (by simpa using hv)
  obtain ⟨h1, h2⟩ := argBest_gt (fun i => ns.getD i 0) (its.toArray.size - 1)
  have hsz : its.toArray.size = ns.length := by rw [List.size_toArray, hlen]
  rw [hsz] at h1 h2 hv
  refine h h' tk _ t (fun b o e => hk b o (fun m => absurd (Heap.lt_size e) (by rw [List.mem_singleton.mp m]; exact Nat.lt_irrefl _)) (Heap.get?_push_of_some _ e)) (getD_in ?_) fun a ha => ?_
  · have q := Nat.lt_of_le_of_lt h1 (show ns.length - 1 < ns.length by omega)
    rw [← hsz] at q
    rw [← hlen]
    simpa using q
  · obtain ⟨j, hj, rfl⟩ := in_getD ha
    have q := h2 j (by omega)
    rw [← hsz] at q
    simpa using q
theorem minT_raw (hh : A.handled = none) (hl : s.heap.IsTuple l its.toArray) (hi : IntsAre its ns) (hne : 0 < ns.length)
    (h : ∀ (h' : Heap) (tk : Nat) (M : Int) (t' : Tok), (∀ b o, s.heap.get? b = some o → h'.get? b = some o) → M ∈ ns → (∀ a ∈ ns, M ≤ a) → Q (.int M t') { s with heap := h', toks := tk }) :
    wpAny (model prog w) A (call (.builtin "min") [.ref l]) Q E s := by
  have hlen := intsAre_len hi
  refine call_min_walk (tup_iter hl fun s2 e st1 st2 hne2 hfp => ?_)
  subst e
  refine ⟨_, [s.heap.objs.size, l], [s.heap.objs.size], its.toArray.size, fun i v => its.toArray[i]? = some v, fun i h => h.IsTupleIter s.heap.objs.size l i ∧ h.IsTuple l its.toArray, fun i j => decide (ns.getD i 0 < ns.getD j 0), rfl, Walks.tuple (A := A.in1) hh _ l hne2 its.toArray, ⟨st1, st2⟩, hfp, by rw [List.size_toArray]; omega, CmpOf.ints_lt (fun i => ns.getD i 0) (fun i v e => intsAre_at hi (by simpa using e)), fun v h' tk hv hk => ?_⟩
  obtain ⟨t, rfl⟩ := intsAre_at hi (by simpa using hv)
  obtain ⟨h1, h2⟩ := argBest_lt (fun i => ns.getD i 0) (its.toArray.size - 1)
  have hsz : its.toArray.size = ns.length := by rw [List.size_toArray, hlen]
  rw [hsz] at h1 h2 hv
  refine h h' tk _ t (fun b o e => hk b o (fun m => absurd (Heap.lt_size e) (by rw [List.mem_singleton.mp m]; exact Nat.lt_irrefl _)) (Heap.get?_push_of_some _ e)) (getD_in ?_) fun a ha => ?_
  · have q := Nat.lt_of_le_of_lt h1 (show ns.length - 1 < ns.length by omega)
    rw [← hsz] at q
    rw [← hlen]
    simpa using q
  · obtain ⟨j, hj, rfl⟩ := in_getD ha
    have q := h2 j (by omega)
    rw [← hsz] at q
    simpa using q
end
section
variable {X : Cx} {W : WX} {e a b c : Expr} {pos : Pos}
def bestT (r : Int → Int → Prop) : FnD
  | [.tup ds], k => ∃ ns : List Int, ds = ns.map D.int ∧ 0 < ns.length ∧ ∀ m, m ∈ ns → (∀ y, y ∈ ns → r y m) → k (.int m)
  | _, _ => False
theorem cd_maxT (hc : X.calm = true) : CallR X (.builtin "max") (CallU X.K (bestT (· ≤ ·))) := by
  rintro pins s σ H xs us Q I r ⟨N, z, ds, R, al, rp, h, k⟩
  unfold bestT at h
  split at h
  · obtain ⟨v, rfl, r1⟩ := rp.one
    obtain ⟨a, vs, rfl, q1, q2⟩ := r1.tup
    obtain ⟨ns, rfl, h0, h⟩ := h
    obtain rfl := q2.toInts
    obtain ⟨its, rv, hl, _⟩ := I.tuple q1
    rw [Vals.ref1 r]
    exact maxT_raw (I.ok.hd hc) hl (Vals.ints rv) h0 fun h' tk m t' hk h1 h2 => ⟨.int m, H, I.kept hk, ⟨t', rfl⟩, k _ _ H (h m h1 h2) same0 .i⟩
  · exact h.elim
theorem cd_minT (hc : X.calm = true) : CallR X (.builtin "min") (CallU X.K (bestT (· ≥ ·))) := by
  rintro pins s σ H xs us Q I r ⟨N, z, ds, R, al, rp, h, k⟩
  unfold bestT at h
  split at h
  · obtain ⟨v, rfl, r1⟩ := rp.one
    obtain ⟨a, vs, rfl, q1, q2⟩ := r1.tup
    obtain ⟨ns, rfl, h0, h⟩ := h
    obtain rfl := q2.toInts
    obtain ⟨its, rv, hl, _⟩ := I.tuple q1
    rw [Vals.ref1 r]
    exact minT_raw (I.ok.hd hc) hl (Vals.ints rv) h0 fun h' tk m t' hk h1 h2 => ⟨.int m, H, I.kept hk, ⟨t', rfl⟩, k _ _ H (h m h1 h2) same0 .i⟩
  · exact h.elim
theorem ap_bestT (r : Int → Int → Prop) (ds : List D) (k : D → Prop) : bestT r [.tup ds] k = ∃ ns : List Int, ds = ns.map D.int ∧ 0 < ns.length ∧ ∀ m, m ∈ ns → (∀ y, y ∈ ns → r y m) → k (.int m) := rfl
/-! ### x, y, u = [], [], []: three lists of one's own -/
def dPar3E (i j l : Nat) : DTS := fun R ρ z => i < ρ.length ∧ j < ρ.length ∧ l < ρ.length ∧ R.nx (((ρ.set i (.own [])).set j (.own [])).set l (.own [])) z
theorem ap_dPar3E (i j l : Nat) (R : DEnds) (s0 : Sl) (ρ0 : List Sl) (z : Z) : dPar3E i j l R (s0 :: ρ0) z = (i < (s0 :: ρ0).length ∧ j < (s0 :: ρ0).length ∧ l < (s0 :: ρ0).length ∧ R.nx ((((s0 :: ρ0).set i (.own [])).set j (.own [])).set l (.own [])) z) := rfl
theorem ds_par3E {i j l : Nat} {x y zz : Str} {px py pz pt p1 p2 p3 : Pos} {kt k2 pt2} (hc : X.calm = true) (hN : X.N.Nodup) (hi : X.N[i]? = some x) (hj : X.N[j]? = some y) (hl : X.N[l]? = some zz) (hij : i ≠ j) (hil : i ≠ l) (hjl : j ≠ l)
    (hx : X.env.scope.names.lookup x = some .local) (hy : X.env.scope.names.lookup y = some .local) (hz : X.env.scope.names.lookup zz = some .local)
    (hw : swappedStores [.Tuple [.Name x px, .Name y py, .Name zz pz] kt pt] (.Tuple [.List [] p1, .List [] p2, .List [] p3] k2 pt2) X.env = pure (some [x, y, zz]))
    (hs : swapsWithSole [.Tuple [.Name x px, .Name y py, .Name zz pz] kt pt] (.Tuple [.List [] p1, .List [] p2, .List [] p3] k2 pt2) pos.line X.env = pure false := by rfl)
    (he : starEach [.List [] p1, .List [] p2, .List [] p3] X.env = (false, eval (.List [] p1) X.env) :: starEach [.List [] p2, .List [] p3] X.env := by rfl)
    (he2 : starEach [.List [] p2, .List [] p3] X.env = (false, eval (.List [] p2) X.env) :: starEach [.List [] p3] X.env := by rfl)
    (he3 : starEach [.List [] p3] X.env = (false, eval (.List [] p3) X.env) :: starEach [] X.env := by rfl) :
    DS X W (.Assign [.Tuple [.Name x px, .Name y py, .Name zz pz] kt pt] (.Tuple [.List [] p1, .List [] p2, .List [] p3] k2 pt2) pos) (dPar3E i j l) := ps_to (ps_par3 hc hN hi hj hl hij hil hjl hx hy hz (pa_cons (pe_lstN pa_nil) (pa_cons (pe_lstN pa_nil) (pa_cons (pe_lstN pa_nil) pa_nil he3) he2) he) hw hs) fun D σ H ⟨M, ρ, z, O, R, w, ⟨li, lj, ll, h⟩, k⟩ => by
  unfold tPar3 tCons tLstN tNil
  refine ⟨Nat.zero_le _, fun p1 H1 f1 s1 e1 => ⟨Nat.zero_le _, fun p2 H2 f2 s2 e2 => ⟨Nat.zero_le _, fun p3 H3 f3 s3 e3 => ?_⟩⟩⟩
  obtain ⟨w1, g1⟩ := own_step w i li f1 s1 e1 Reps.nil
  obtain ⟨w2, g2⟩ := own_step w1 j (by rw [List.length_set]; exact lj) f2 s2 e2 Reps.nil
  obtain ⟨w3, g3⟩ := own_step w2 l (by rw [List.length_set, List.length_set]; exact ll) f3 s3 e3 Reps.nil
  refine ⟨_, _, _, rfl, k.nx _ z _ H3 _ h (g1.trans (g2.trans g3)) w3⟩
theorem e_kin (a : Addr) (tab : List (Str × Option D)) (f : Bool → Bool) (d : Addr) (z : Str) (k : D → Prop) : kinD d tab f (.str z) (.adr a) k = (a = d ∧ ∃ o, (z, o) ∈ tab ∧ k (.bl (f o.isSome))) := by
  unfold kinD
  refine propext ⟨fun ⟨z', o, h1, h2, m, h⟩ => ?_, fun ⟨e, o, m, h⟩ => ⟨z, o, rfl, by rw [e], m, h⟩⟩
  cases h1; cases h2
  exact ⟨rfl, o, m, h⟩
theorem e_kix (a : Addr) (tab : List (Str × Option D)) (d : Addr) (z : Str) (k : D → Prop) : kixD d tab (.adr a) (.str z) k = (a = d ∧ ∃ x, (z, some x) ∈ tab ∧ k x) := by
  unfold kixD
  refine propext ⟨fun ⟨z', o, h1, h2, m, h⟩ => ?_, fun ⟨e, o, m, h⟩ => ⟨z, o, by rw [e], rfl, m, h⟩⟩
  cases h1; cases h2
  exact ⟨rfl, o, m, h⟩
end
end Lay

set_option Elab.async false
set_option linter.all false
set_option maxRecDepth 100000
set_option maxHeartbeats 2000000
namespace Lay
open PySem PySem.Spec PyProof.Rows L2
/-! ### text.index(text), where it is there -/
section
variable {X : Cx}
def indexD : FnS
  | z, [.str y], k => ∃ (i : Nat) (rest : List Nat), Builtin.Str.occurrences z y 0 z.length 1 = i :: rest ∧ k (.int (i : Nat))
  | _, _, _ => False
theorem md_index : MtR X "str.index" (MtS X.K indexD) := by
  rintro pins s σ H x xs v us Q I rx rs ⟨N, z, y, ds, R, al, rfl, rp, h, k⟩
  unfold indexD at h
  split at h
  · obtain ⟨w, rfl, r1⟩ := rp.one
    obtain rfl := r1.str
    obtain ⟨i, rest, e, h⟩ := h
    exact mt_sindex pins s σ H _ _ v us Q I rx rs ⟨_, _, i, rest, rfl, rfl, e, k _ _ H h same0 .i⟩
  · exact h.elim
theorem e_index (z y : Str) (k : D → Prop) : indexD z [.str y] k = ∃ (i : Nat) (rest : List Nat), Builtin.Str.occurrences z y 0 z.length 1 = i :: rest ∧ k (.int (i : Nat)) := rfl
end
end Lay

set_option Elab.async false
set_option linter.all false
set_option maxRecDepth 100000
set_option maxHeartbeats 2000000
namespace K14
open PySem L2 Lay RZ SkE SX
def top (i : Nat) : Stmt := PySem.Challenge.pw_gridplaces_k14_references_read.main.body.getD i (.Pass ⟨0, 0, 0, 0⟩)
/-! ### reading steps -/
local macro_rules | `(tactic| walk_at "side") => `(tactic| first | rfl | decide | exact ⟨by decide, by decide, by decide⟩ | exact ⟨by omega, by omega, by decide⟩ | (unfold CMulW; decide +kernel) | assumption | omega | exact Nat.le_of_ble_eq_true rfl | (show (0 : Int) < _; first | assumption | decide | omega) | exact Or.inl ⟨by omega, by omega⟩ | exact Or.inr ⟨by omega, by omega⟩ | exact ⟨by omega, by decide⟩ | exact Or.inr ⟨by (split <;> omega), by (split <;> omega)⟩)
local macro_rules | `(tactic| walk_at "at") => `(tactic| first | rfl | assumption)
local macro_rules | `(tactic| walk_at "rd1") => `(tactic| first
  | (refine ⟨_, rfl, ?_⟩)
  | (refine ⟨_, _, rfl, rfl, ?_⟩)
  | (refine ⟨_, _, _, _, rfl, rfl, SqL.of (by assumption), (by walk_at "at"), ?_⟩)
  | (refine ⟨_, _, _, _, rfl, rfl, SqT.of (by assumption), (by walk_at "at"), ?_⟩)
  | (refine ⟨_, _, _, _, rfl, rfl, (by assumption), (by walk_at "at"), ?_⟩)
  | (refine ⟨_, _, rfl, SqT.of upd_same, rfl, ?_⟩)
  | (refine ⟨_, _, rfl, Or.inl (by first | assumption | exact SqL.of (by assumption)), ?_⟩)
  | (refine ⟨_, _, rfl, Or.inr (by first | assumption | exact SqT.of (by assumption)), ?_⟩)
  | (refine ⟨_, _, _, _, _, rfl, (by assumption), (by exact Own.cl (by assumption)), (by exact Own.no (by assumption) _ (by simp)), rfl, ?_⟩)
  | (refine ⟨_, _, _, rfl, (by assumption), rfl, ?_⟩)
  | (refine ⟨_, _, rfl, ?_⟩)
  | (refine ⟨_, _, _, rfl, ?_⟩)
  | (refine Or.inl ⟨_, rfl, ?_⟩)
  | (refine Or.inr ⟨_, rfl, ?_⟩)
  | (refine And.intro (by walk_at "side") ?_))
local macro_rules | `(tactic| walk_at "rd") => `(tactic| repeat walk_at "rd1")

structure T14 (mg : Str → Option Value) : Prop where
  b_len : mg "len" = none
  b_abs : mg "abs" = none
  b_range : mg "range" = none
  b_int : mg "int" = none
  b_str : mg "str" = none
  b_repr : mg "repr" = none
  b_isinstance : mg "isinstance" = none
  b_tuple : mg "tuple" = none
  b_enumerate : mg "enumerate" = none
  b_min : mg "min" = none
  b_any : mg "any" = none
  b_all : mg "all" = none
  b_max : mg "max" = none
  b_bool : mg "bool" = none
  b_zip : mg "zip" = none
  b_reversed : mg "reversed" = none
  b_list : mg "list" = none
  b_sum : mg "sum" = none
  b_sorted : mg "sorted" = none
  b_set : mg "set" = none
  b_dict : mg "dict" = none
  g_LETTER_SIGNS : ∃ t, mg "LETTER_SIGNS" = some (.str "ABCDEFGHJKLMNPQRSTUVWXYZ" t)
  g_FIGURE_SIGNS : ∃ t, mg "FIGURE_SIGNS" = some (.str "0123456789" t)
  g_MOST_LEVELS : ∃ t, mg "MOST_LEVELS" = some (.int 5 t)
  g_MOST_FIGURES : ∃ t, mg "MOST_FIGURES" = some (.int 9 t)
/-! ### the pot -/
@[irreducible] def spDraw0 : Sp := fun vs H Q _ => ∃ (a : Addr) (many c : Int), vs = [.ref a, .int many] ∧ PotAt H a c ∧ c ≤ 1000000 ∧ 0 < many ∧ many < 2 ^ 200 ∧
  ∀ (H' : Hp) (d : Int), But [a] H H' → PotAt H' a (c + 1) → 0 ≤ d → d < many → Q (.int d) H'
theorem use_draw0 {H : Hp} {Q : VK} {E : XK} {a : Addr} (many c : Int) (hP : PotAt H a c) (hc : c ≤ 1000000) (h0 : 0 < many) (h1 : many < 2 ^ 200)
    (k : ∀ (H' : Hp) (d : Int), But [a] H H' → PotAt H' a (c + 1) → 0 ≤ d → d < many → Q (.int d) H') : spDraw0 ([.ref a, .int many] ++ []) H Q E := by
  unfold spDraw0
  exact ⟨a, many, c, rfl, hP, hc, h0, h1, k⟩
@[irreducible] def spBegin0 (K : PySem.W.Frag) : Sp := fun vs H Q _ => ∃ (a : Addr) (ns : List Int) (k : Nat), vs = [.ref a, .int (k : Int)] ∧ SqL K H a (ns.map V.int) ∧ k ≤ 100 ∧
  ∀ (H' : Hp) (p : Addr), Same H H' → H p = none → PotAt H' p 0 → Q (.ref p) H'
theorem use_begin0 {K : PySem.W.Frag} {H : Hp} {Q : VK} {E : XK} {a : Addr} {j : Int} (ns : List Int) (k : Nat) (hj : j = (k : Int)) (hS : SqL K H a (ns.map V.int)) (hk : k ≤ 100)
    (kk : ∀ (H' : Hp) (p : Addr), Same H H' → H p = none → PotAt H' p 0 → Q (.ref p) H') : spBegin0 K ([.ref a, .int j] ++ []) H Q E := by
  subst hj
  unfold spBegin0
  exact ⟨a, ns, k, rfl, hS, hk, kk⟩
section
variable {P : Program} {w : World} {K : PySem.W.Frag} {mg : Str → Option Value} {base : Heap} {f : Addr} {fd : FuncData}
abbrev s_draw : Stmt := (top 23)
abbrev draw.N : List Str := ["_law_pot", "_law_many", "_law_digit", "_law_go", "_law_mixed"]
abbrev draw.ps : List Str := ["_law_pot", "_law_many"]
theorem sc_draw : FnScope draw.N draw.ps (defScope s_draw) := ⟨rfl, rfl, rfl, by decide +kernel, rfl, by decide +kernel, by decide +kernel⟩
theorem ok_draw0 (F : Fun K "_law_draw" "_law_draw" s_draw f fd) : FnG P w K mg base CX0 1 f fd draw.ps spDraw0 := by
  refine gbody F sc_draw (fun vs H Q E h => ?_) (fun cdv A outer s H vs Q E hr hg h => ?_)
  · unfold spDraw0 at h
    obtain ⟨a, many, c, rfl, _⟩ := h
    rfl
  · unfold spDraw0 at h
    obtain ⟨a, many, c, rfl, ⟨z0, z1, z2, hL, h0, h1, h1', h2, h2'⟩, hc, hm, hm', k⟩ := h
    refine ⟨_, (pss_cons (ps_if (pt_cmpR op_gt (pe_ix ix_list (pv 0) pe_int (fun _ _ => rfl)) pe_int (nomark _)) (pss_cons (ps_set (i := 2) sc_draw.nd rfl (Or.inl rfl) (pe_op op_mod (pe_ix ix_list (pv 0) pe_int (fun _ _ => rfl)) (pv 1)))
      (pss_cons (ps_asg (pe_op op_fdivW (pe_ix ix_list (pv 0) pe_int (fun _ _ => rfl)) (pv 1)) (pg_sub (pv 0) pe_int set_list))
      (pss_one (ps_ret (pv 2))))) pss_nil)
      (pss_cons (ps_asg (pe_op op_add (pe_ix ix_list (pv 0) pe_int (fun _ _ => rfl)) pe_int) (pg_sub (pv 0) pe_int set_list))
      (pss_cons (ps_set (i := 3) sc_draw.nd rfl (Or.inl rfl) (pe_ix ix_list (pv 0) pe_int (fun _ _ => rfl)))
      (pss_cons (ps_set (i := 4) sc_draw.nd rfl (Or.inl rfl) (pe_op op_mod (pe_op op_mul (pe_op op_add (pe_ix ix_list (pv 0) pe_int (fun _ _ => rfl)) (pe_op op_mul pe_int (pv 3))) (pe_op op_add (pe_op op_mul (pe_op op_mul (pv 3) (pv 3)) pe_int) pe_int)) pe_int))
      (pss_cons (ps_set (i := 4) sc_draw.nd rfl (Or.inl rfl) (pe_op op_mod (pe_op op_mul (pv 4) (pe_op op_add (pe_op op_mod (pv 4) pe_int) (pv 3))) pe_int))
      (pss_one (ps_ret (pe_op op_mod (pe_op op_fdivW (pv 4) pe_int) (pv 1))))))))), ?_⟩
    walk_at "rd"
    refine iteD (fun hp => ?_) (fun hp => ?_)
    · walk_at "rd"
      refine ⟨wide_div (b := 200) hm (by omega) (by decide) (by decide), ?_⟩
      walk_at "rd"
      refine k _ _ ((But.refl _ H).set (by simp)) ⟨_, z1, z2, upd_same, Int.ediv_nonneg h0 (by omega), h1, h1', h2, by omega⟩ (Int.emod_nonneg _ (by omega)) (Int.emod_lt_of_pos _ hm)
    · have hL2 : (upd H a (.lst [.int z0, .int z1, .int (z2 + 1)])) a = some (.lst [.int z0, .int z1, .int (z2 + 1)]) := upd_same
      walk_at "rd"
      refine k _ _ ((But.refl _ H).set (by simp)) ⟨z0, z1, z2 + 1, upd_same, h0, h1, h1', by omega, by omega⟩ (Int.emod_nonneg _ (by omega)) (Int.emod_lt_of_pos _ hm)
abbrev s_begin : Stmt := (top 22)
abbrev begin.N : List Str := ["_law_script", "_law_k", "_law_cell", "_law_seed", "_law_one"]
abbrev begin.ps : List Str := ["_law_script", "_law_k"]
theorem sc_begin : FnScope begin.N begin.ps (defScope s_begin) := ⟨rfl, rfl, rfl, by decide +kernel, rfl, by decide +kernel, by decide +kernel⟩
theorem ok_begin0 (F : Fun K "_law_begin" "_law_begin" s_begin f fd) (T : T14 mg) : FnG P w K mg base CX0 1 f fd begin.ps (spBegin0 K) := by
  refine gbody F sc_begin (fun vs H Q E h => ?_) (fun cdv A outer s H vs Q E hr hg h => ?_)
  · unfold spBegin0 at h
    obtain ⟨a, ns, k, rfl, _⟩ := h
    rfl
  · unfold spBegin0 at h
    obtain ⟨a, ns, k, rfl, hS, hk, kk⟩ := h
    refine ⟨_, (pss_cons (ps_par (i := 2) (j := 3) rfl sc_begin.nd rfl rfl (by decide) rfl rfl (pa_cons (pe_cut (pe_ifExp (pt_cmpR op_lt (pv 1) (pe_callB call_len_seq (by rfl) T.b_len PySem.boot_len (pa_cons (pv 0) pa_nil)) (nomark _)) (pe_ix ix_list (pv 0) (pv 1) (fun _ _ => rfl)) pe_int)) (pa_cons (pe_op op_add (pe_op op_mul pe_int (pv 1)) pe_int) pa_nil)) (by rfl))
      (pss_cons (ps_for PassesOwn.never rfl (pi_list (pe_op op_catN (pe_lstN (pa_cons (pv 2) pa_nil)) (pe_slice sl_listN (pv 0) po_none (po_some pe_int)))) (pg_name (i := 4) sc_begin.nd rfl (Or.inl rfl)) (pss_one (ps_set (i := 3) sc_begin.nd rfl (Or.inl rfl) (pe_op op_mod (pe_op op_add (pe_op op_add (pe_op op_mul (pv 3) pe_int) (pe_op op_mul pe_int (pe_callB call_abs (by rfl) T.b_abs (by decide +kernel) (pa_cons (pv 4) pa_nil)))) (pe_callTy call_int1 (by rfl) T.b_int (by decide +kernel) (pa_cons (pe_cmpR op_lt (pv 4) pe_int (nomark _)) pa_nil))) pe_int))))
      (pss_one (ps_ret (pe_lstN (pa_cons (pe_cut (pe_ifExp (pt_cmpR op_ge (pe_callB call_abs (by rfl) T.b_abs (by decide +kernel) (pa_cons (pv 2) pa_nil)) (pe_op op_pow pe_int pe_int) (nomark _)) (pe_callB call_abs (by rfl) T.b_abs (by decide +kernel) (pa_cons (pv 2) pa_nil)) pe_int)) (pa_cons (pv 3) (pa_cons pe_int pa_nil)))))))), ?_⟩
    refine ⟨fun v H' => H' = H ∧ ∃ c : Int, v = .int c, ?_, ?_⟩
    · walk_at "rd"
      refine iteD (fun hk => ?_) (fun _ => ?_)
      · have hk2 : k < (ns.map V.int).length := by omega
        have e : (ns.map V.int)[k]? = some (V.int ns[k]!) := by
          rw [List.length_map] at hk2
          rw [List.getElem?_map, List.getElem?_eq_getElem hk2, Option.map_some, getElem!_pos ns k hk2]
        refine ⟨_, rfl, _, rfl, a, _, _, _, rfl, rfl, hS, at_of rfl e, rfl, _, rfl⟩
      · exact ⟨rfl, _, rfl⟩
    · rintro v H' ⟨rfl, c, rfl⟩
      walk_at "rd"
      intro l H1 hl s1 hl1
      walk_at "rd"
      refine ⟨a, _, rfl, But.sq (But.of [] s1) (by simp) hS, fun q H2 hq s2 hq2 => ?_⟩
      rw [show (60 : Int) = ((60 : Nat) : Int) from rfl] at hq2
      rw [cut_ints] at hq2
      refine ⟨l, q, [.int c], (ns.take 60).map V.int, rfl, rfl, s2 _ _ hl1, hq2, ?_, fun r H3 hr s3 hr2 => ?_⟩
      · rw [List.length_map, List.length_take]; exact Nat.le_trans (by show 1 + _ ≤ 61; omega) (by decide)
      · have sm : Same H' H3 := fun b o e => s3 _ _ (s2 _ _ (s1 _ _ e))
        replace hr2 : H3 r = some (.lst ((c :: ns.take 60).map V.int)) := hr2
        refine ⟨r, rfl, ⟨_, SqL.of hr2⟩, for_list (K := K) (a := r) (xs := (c :: ns.take 60).map V.int) (fun i σ H2 => Box (∃ (z : Int) (v : Option V), σ = [some (.ref a), some (.int k), some (.int c), some (.int z), v] ∧ 0 ≤ z ∧ z < 2305843009213693951 ∧ Same H' H2 ∧ H2 r = some (.lst ((c :: ns.take 60).map V.int))))
          ?_ (fun i σ H2 _ ⟨_, _, _, _, _, _, _, hq'⟩ => SqL.of hq') ?_ ?_⟩
        · exact .of ⟨_, none, rfl, by omega, by omega, sm, hr2⟩
        · rintro i y σ H2 hi ⟨_, z, v, rfl, h0, h1, sm, hq'⟩
          obtain ⟨x, hx, rfl⟩ := mapI_get hi
          walk_at "rd"
          exact .of ⟨_, some (.int x), rfl, by omega, by omega, sm, hq'⟩
        · rintro σ H2 ⟨_, z, v, rfl, h0, h1, sm, hq'⟩
          walk_at "rd"
          refine ⟨fun v H' => H' = H2 ∧ ∃ d : Int, v = .int d ∧ 0 ≤ d, ?_, ?_⟩
          · walk_at "rd"
            refine iteD (fun _ => ?_) (fun _ => ?_)
            · walk_at "rd"
              split <;> omega
            · exact ⟨rfl, _, rfl, Int.le_refl _⟩
          · rintro v H5 ⟨rfl, d, rfl, hd⟩
            walk_at "rd"
            intro p H6 hp s6 hp6
            refine kk _ p (fun b o e => s6 _ _ (sm _ _ e)) (Same.free sm hp) ⟨d, z, 0, hp6, hd, h0, Int.lt_trans h1 (by decide), Int.le_refl _, Int.le_refl _⟩
end
/-! the pot over trees -/
@[irreducible] def spDraw : PSp := fun ds z R _ => ∃ p many, ds = [.adr p, .int many] ∧ z.p = some p ∧ z.c ≤ 1000000 ∧ 0 < many ∧ many < 2 ^ 200 ∧ ∀ d, 0 ≤ d → d < many → R (.int d) ⟨some p, z.c + 1⟩
theorem use_draw {p : Addr} {many c : Int} {R : D → Z → Prop} {E : PX} (hc : c ≤ 1000000) (h0 : 0 < many) (h1 : many < 2 ^ 200) (k : ∀ d, 0 ≤ d → d < many → R (.int d) ⟨some p, c + 1⟩) : spDraw [.adr p, .int many] ⟨some p, c⟩ R E := by
  unfold spDraw
  exact ⟨p, many, rfl, rfl, hc, h0, h1, k⟩
@[irreducible] def spBegin : PSp := fun ds _ R _ => ∃ (ns : List Int) (k : Nat), ds = [.rol (ns.map .int), .int k] ∧ k ≤ 100 ∧ ∀ p, R (.adr p) ⟨some p, 0⟩
theorem use_begin {ns : List Int} {j : Int} {z : Z} {R : D → Z → Prop} {E : PX} (k : Nat) (hj : j = k) (hk : k ≤ 100) (h : ∀ p, R (.adr p) ⟨some p, 0⟩) : spBegin [.rol (ns.map .int), .int j] z R E := by
  subst hj
  unfold spBegin
  exact ⟨ns, k, rfl, hk, h⟩
section
variable {P : Program} {w : World} {K : PySem.W.Frag} {mg : Str → Option Value} {base : Heap} {f : Addr} {fd : FuncData}
theorem ok_draw (F : Fun K "_law_draw" "_law_draw" s_draw f fd) : FnG P w K mg base CX0 1 f fd draw.ps (lift K spDraw) := (ok_draw0 F).imp fun vs H Q E h => by
  unfold lift at h
  obtain ⟨M, ds, z, R, RX, al, pot, pm, r, h, k1, k2⟩ := h
  unfold spDraw at h
  obtain ⟨p, many, rfl, hz, hc, h0, h1, k⟩ := h
  obtain ⟨v, v2, rfl, r1, r2⟩ := reps2 r
  obtain rfl := RepP.adr (z := z) (.inl r1)
  obtain rfl := RepP.int (z := z) (.inl r2)
  unfold spDraw0
  refine ⟨p, many, z.c, rfl, pot p hz, hc, h0, h1, fun H' d b pa hd0 hd1 => k1 _ _ _ H' (k d hd0 hd1) ⟨fun a h => ?_, fun a h => ?_, fun a h => ?_, fun a o h n => b a o (nin1 fun e => n (by rw [e]; exact hz)) h, fun a h => ?_⟩ .i⟩
  · cases h; exact pa
  · cases h; exact pm p hz
  · cases h; exact .inl hz
  · by_cases e : a = p
    · rw [e]; exact pa.ne
    · cases q : H a with
      | none => exact absurd q h
      | some o => rw [b a o (nin1 e) q]; exact Option.some_ne_none _
theorem ok_begin (F : Fun K "_law_begin" "_law_begin" s_begin f fd) (T : T14 mg) : FnG P w K mg base CX0 1 f fd begin.ps (lift K spBegin) := (ok_begin0 F T).imp fun vs H Q E h => by
  unfold lift at h
  obtain ⟨M, ds, z, R, RX, al, pot, pm, r, h, k1, k2⟩ := h
  unfold spBegin at h
  obtain ⟨ns, k, rfl, hk, k⟩ := h
  obtain ⟨v, v2, rfl, r1, r2⟩ := reps2 r
  obtain ⟨a, vs, rfl, q1, q2⟩ := rolAt_of r1
  obtain rfl := q2.toInts
  obtain rfl := RepP.int (z := z) (.inl r2)
  unfold spBegin0
  refine ⟨a, ns, _, rfl, q1.sq, hk, fun H' p sm hp pa => k1 _ _ _ H' (k p) ⟨fun a h => ?_, fun a h m => ?_, fun a h => ?_, fun a o h n => sm a o h, fun a h => ?_⟩ .a⟩
  · cases h; exact pa
  · cases h; exact al p m hp
  · cases h; exact .inr hp
  · cases q : H a with
    | none => exact absurd q h
    | some o => rw [sm a o q]; exact Option.some_ne_none _
end

/-! ### signs by a word -/
abbrev letters : List Nat := [65, 66, 67, 68, 69, 70, 71, 72, 74, 75, 76, 77, 78, 80, 81, 82, 83, 84, 85, 86, 87, 88, 89, 90]
abbrev figs : List Nat := [48, 49, 50, 51, 52, 53, 54, 55, 56, 57]
def dig (c : Nat) : Bool := decide (48 ≤ c) && decide (c ≤ 57)
/-- the number that figures tell, where they tell one of the form -/
def manyOf : List Nat → Option Nat
  | [a] => if dig a && !(a == 48) then some (a - 48) else none
  | [a, b] => if dig a && dig b && !(a == 48) then some ((a - 48) * 10 + (b - 48)) else none
  | _ => none
def menu (l : List Nat) : List Nat := if l.take 1 = [65] then letters else if l.take 1 = [78] then figs else []
def signsOf (l : List Nat) : Option (List Nat) := match manyOf (l.drop 1) with
  | some m => if 2 ≤ m ∧ m ≤ (menu l).length then some ((menu l).take m) else none
  | none => none
theorem figs_str : Str.ofString "0123456789" = S figs := by decide +kernel
theorem letters_str : Str.ofString "ABCDEFGHJKLMNPQRSTUVWXYZ" = S letters := by decide +kernel
theorem cut_from1 (l : List Nat) : cutS (S l) (some 1) none = S (l.drop 1) := by
  unfold cutS
  rw [show (1 : Int) = ((1 : Nat) : Int) from rfl, HT.sIx_nat, HT.sIx_none]
  show S _ = S _
  congr 1
  rw [S_len]
  by_cases h : 1 ≤ l.length
  · rw [Nat.min_eq_left h]
    exact List.take_of_length_le (by simp)
  · have : l = [] := by cases l with | nil => rfl | cons a r => exact absurd (by simp) h
    subst this
    rfl
theorem cut_to (l : List Nat) (n : Nat) : cutS (S l) none (some (n : Int)) = S (l.take n) := by
  unfold cutS
  rw [HT.sIx_nat, HT.sIx_none]
  show S _ = S _
  congr 1
  rw [S_len, List.drop_zero, Nat.sub_zero]
  by_cases h : n ≤ l.length
  · rw [Nat.min_eq_left h]
  · rw [Nat.min_eq_right (by omega), List.take_of_length_le (Nat.le_refl _), List.take_of_length_le (by omega)]
theorem has_figs (c : Nat) : (S figs).cps.contains c = dig c := by
  unfold dig
  have e : (S figs).cps.contains c = decide (c ∈ figs) := by simp [S]
  rw [e, ← Bool.decide_and]
  refine decide_eq_decide.mpr ?_
  simp only [figs, List.mem_cons, List.not_mem_nil, or_false]
  omega
theorem strip1 (g : Nat → Bool) (a : Nat) : Txt.stripBy g true true (S [a]) = if g a then S [] else S [a] := by
  cases h : g a <;> simp [Txt.stripBy, stripSame, stripped, stripLo, stripHi, S, Str.length, List.takeWhile, h, Builtin.Str.strSub]
theorem strip2 (g : Nat → Bool) (a b : Nat) : Txt.stripBy g true true (S [a, b]) = if g a then (if g b then S [] else S [b]) else (if g b then S [a] else S [a, b]) := by
  cases h : g a <;> cases h2 : g b <;> simp [Txt.stripBy, stripSame, stripped, stripLo, stripHi, S, Str.length, List.takeWhile, h, h2, Builtin.Str.strSub]
theorem cut_to1 (l : List Nat) : cutS (S l) none (some 1) = S (l.take 1) := cut_to l 1
theorem menu_get (l : List Nat) : ((valV (mergeK [] [(.inr "A", V.str "ABCDEFGHJKLMNPQRSTUVWXYZ"), (.inr "N", V.str "0123456789")]) (.inr (S (l.take 1)))).getD (V.str "")) = V.str (S (menu l)) := by
  have eA : Str.ofString "A" = S [65] := by decide +kernel
  have eN : Str.ofString "N" = S [78] := by decide +kernel
  have e0 : Str.ofString "" = S [] := by decide +kernel
  rw [eA, eN, e0, figs_str, letters_str]
  unfold menu
  by_cases h : l.take 1 = [65]
  · rw [h]; rfl
  · by_cases h2 : l.take 1 = [78]
    · rw [h2]; rfl
    · have n1 : ¬ S [65] = S (l.take 1) := fun z => h (S_inj z).symm
      have n2 : ¬ S [78] = S (l.take 1) := fun z => h2 (S_inj z).symm
      rw [if_neg h, if_neg h2]
      have em : mergeK [] [((.inr (S [65]) : Key), V.str (S letters)), (.inr (S [78]), V.str (S figs))] = [(.inr (S [65]), V.str (S letters)), (.inr (S [78]), V.str (S figs))] := rfl
      have d1 : ¬ ((.inr (S [65]) : Key) = .inr (S (l.take 1))) := fun z => n1 (Sum.inr.inj z)
      have d2 : ¬ ((.inr (S [78]) : Key) = .inr (S (l.take 1))) := fun z => n2 (Sum.inr.inj z)
      rw [em]
      unfold valV
      simp only [List.find?, decide_eq_false d1, decide_eq_false d2]
      rfl
theorem int1 {a : Nat} (h : dig a = true) : PySem.intText? (S [a]) = some (((a - 48 : Nat)) : Int) := by
  have all : ∀ k : Fin 10, PySem.intText? (S [48 + k.val]) = some ((k.val : Nat) : Int) := by decide +kernel
  unfold dig at h
  simp only [Bool.and_eq_true, decide_eq_true_eq] at h
  have e := all ⟨a - 48, by omega⟩
  simp only [show 48 + (a - 48) = a by omega] at e
  exact e
theorem int2 {a b : Nat} (h : dig a = true) (h2 : dig b = true) : PySem.intText? (S [a, b]) = some ((((a - 48) * 10 + (b - 48) : Nat)) : Int) := by
  have all : ∀ k j : Fin 10, PySem.intText? (S [48 + k.val, 48 + j.val]) = some ((k.val * 10 + j.val : Nat) : Int) := by decide +kernel
  unfold dig at h h2
  simp only [Bool.and_eq_true, decide_eq_true_eq] at h h2
  have e := all ⟨a - 48, by omega⟩ ⟨b - 48, by omega⟩
  simp only [show 48 + (a - 48) = a by omega, show 48 + (b - 48) = b by omega] at e
  exact e
@[irreducible] def spSigns0 : Sp := fun vs H Q _ => ∃ (l : List Nat), vs = [.str (S l)] ∧ l.length ≤ 100000 ∧
  ∀ H', Same H H' → Q (match signsOf l with | some r => .str (S r) | none => .non) H'
theorem use_signs0 {H : Hp} {Q : VK} {E : XK} (l : List Nat) (hl : l.length ≤ 100000)
    (k : ∀ H', Same H H' → Q (match signsOf l with | some r => .str (S r) | none => .non) H') : spSigns0 ([.str (S l)] ++ []) H Q E := by
  unfold spSigns0
  exact ⟨l, rfl, hl, k⟩
section
variable {P : Program} {w : World} {K : PySem.W.Frag} {mg : Str → Option Value} {base : Heap} {f : Addr} {fd : FuncData}
abbrev s_signs_by : Stmt := (top 10)
abbrev signs_by.N : List Str := ["word", "signs", "figures", "many"]
abbrev signs_by.ps : List Str := ["word"]
theorem sc_signs_by : FnScope signs_by.N signs_by.ps (defScope s_signs_by) := ⟨rfl, rfl, rfl, by decide +kernel, rfl, by decide +kernel, by decide +kernel⟩
theorem ok_signs_by0 (F : Fun K "signs_by" "signs_by" s_signs_by f fd) (T : T14 mg) : FnG P w K mg base CX0 1 f fd signs_by.ps spSigns0 := by
  refine gbody F sc_signs_by (fun vs H Q E h => ?_) (fun cdv A outer s H vs Q E hr hg h => ?_)
  · unfold spSigns0 at h
    obtain ⟨l, rfl, _⟩ := h
    rfl
  · unfold spSigns0 at h
    obtain ⟨l, rfl, hl, k⟩ := h
    refine ⟨_, (pss_cons (ps_set (i := 1) sc_signs_by.nd rfl (Or.inl rfl) (pe_dget2 (hu_of hr) (pe_disp (pps_cons pe_str (pe_globS rfl T.g_LETTER_SIGNS) (pps_cons pe_str (pe_globS rfl T.g_FIGURE_SIGNS) pps_nil)) rfl rfl (List.cons_ne_nil _ _) (by decide)) (pe_slice sl_str (pv 0) po_none (po_some pe_int)) pe_str ⟨rfl, rfl, rfl, rfl⟩))
      (pss_cons (ps_set (i := 2) sc_signs_by.nd rfl (Or.inl rfl) (pe_slice sl_str (pv 0) (po_some pe_int) po_none))
      (pss_cons (ps_if (PW.pt (pw_or (pt_not (pt_chain op_le op_le pe_int (pe_callB call_len_str (by rfl) T.b_len PySem.boot_len (pa_cons (pv 2) pa_nil)) pe_int)) (pw_or (pt_cmpR op_ne (pe_bm PySem.F.plainAttrs_str PySem.F.slot_str_strip PySem.F.type_str_strip mt_stripChars (pv 2) (pa_cons (pe_globS rfl T.g_FIGURE_SIGNS) pa_nil)) pe_str (nomark _)) (pw_or1 (pt_cmpR op_eq (pe_ix ix_str (pv 2) pe_int (fun _ _ => rfl)) pe_str (nomark _)))))) (pss_one (ps_ret pe_non)) pss_nil)
      (pss_cons (ps_set (i := 3) sc_signs_by.nd rfl (Or.inl rfl) (pe_callTy call_int_str (by rfl) T.b_int (by decide +kernel) (pa_cons (pv 2) pa_nil)))
      (pss_cons (ps_if (pt_not (pt_chain op_le op_le pe_int (pv 3) (pe_callB call_len_str (by rfl) T.b_len PySem.boot_len (pa_cons (pv 1) pa_nil)))) (pss_one (ps_ret pe_non)) pss_nil)
      (pss_one (ps_ret (pe_slice sl_str (pv 1) po_none (po_some (pv 3)))))))))), ?_⟩
    intro p hp
    refine ⟨upd_same, [(.inr "A", V.str "ABCDEFGHJKLMNPQRSTUVWXYZ"), (.inr "N", V.str "0123456789")], rfl, by decide, ?_⟩
    refine ⟨p, rfl, .inl ⟨_, .inl upd_same⟩, ?_⟩
    have hS : (S l).length ≤ sizeLine := by rw [S_len]; exact Nat.le_trans hl (by decide)
    walk_at "rd"
    simp only [cut_to1]
    refine ⟨_, DGet.k (k := .inr (S (l.take 1))) upd_same, ?_⟩
    rw [menu_get]
    have sm : Same H (upd (upd H p (.dK [])) p (.dK (mergeK [] [(.inr "A", V.str "ABCDEFGHJKLMNPQRSTUVWXYZ"), (.inr "N", V.str "0123456789")]))) := same_to (same_new hp) hp
    generalize upd (upd H p (.dK [])) p (.dK (mergeK [] [(.inr "A", V.str "ABCDEFGHJKLMNPQRSTUVWXYZ"), (.inr "N", V.str "0123456789")])) = H1 at sm ⊢
    walk_at "rd"
    simp only [cut_from1]
    have hF : (S (l.drop 1)).length ≤ sizeLine := by
      rw [S_len, List.length_drop]
      rw [S_len] at hS
      omega
    have kk := k H1 sm
    unfold signsOf at kk
    generalize l.drop 1 = fg at hF kk ⊢
    refine ⟨hF, ?_⟩
    rw [S_len]
    have e0 : Str.ofString "" = S [] := by decide +kernel
    have eZ : Str.ofString "0" = S [48] := by decide +kernel
    match fg, hF, kk with
    | [], hF, kk =>
      walk_at "rd"
      simp only [Bool.not_false, if_true]
      exact kk
    | [a], hF, kk =>
      walk_at "rd"
      rw [figs_str, e0]
      unfold Txt.stripChars
      rw [strip1, has_figs]
      cases hd : dig a with
      | false =>
        refine iteNT (fun z => absurd (S_inj (V.str.inj z)) (by simp)) ?_
        simp only [manyOf, hd, Bool.false_and] at kk
        walk_at "rd"
        exact kk
      | true =>
        refine iteNF rfl ?_
        refine ⟨_, rfl, ?_⟩
        refine ⟨_, _, a, rfl, rfl, hF, rfl, ?_⟩
        rw [eZ]
        walk_at "rd"
        refine iteD (fun hz => ?_) (fun hz => ?_)
        · obtain rfl : a = 48 := by
            have := S_inj (V.str.inj hz)
            simpa using this
          walk_at "rd"
          exact kk
        · have ha : ¬ a = 48 := fun z => hz (by rw [z])
          walk_at "rd"
          have em : manyOf [a] = some (a - 48) := by simp [manyOf, hd, ha]
          rw [em] at kk
          refine ⟨S [a], _, rfl, int1 hd, by show (1 : Nat) ≤ 640; decide, ?_⟩
          walk_at "rd"
          generalize a - 48 = m at kk ⊢
          have hM : (S (menu l)).length ≤ sizeLine := by
            rw [S_len]
            unfold menu
            split
            · decide
            · split <;> decide
          refine iteD (fun h2 => ?_) (fun h2 => ?_)
          · walk_at "rd"
            rw [S_len]
            by_cases h3 : m ≤ (menu l).length
            · refine iteNF (show (m : Int) ≤ ((menu l).length : Int) by omega) ?_
              have e2 : (2 ≤ m ∧ m ≤ (menu l).length) := ⟨by omega, h3⟩
              simp only [e2, and_self, if_true] at kk
              walk_at "rd"
              rw [cut_to]
              exact kk
            · refine iteNT (show ¬ (m : Int) ≤ ((menu l).length : Int) by omega) ?_
              have e2 : ¬ (2 ≤ m ∧ m ≤ (menu l).length) := fun z => h3 z.2
              simp only [if_neg e2] at kk
              walk_at "rd"
              exact kk
          · have e2 : ¬ (2 ≤ m ∧ m ≤ (menu l).length) := fun z => h2 (by omega)
            simp only [if_neg e2] at kk
            walk_at "rd"
            exact kk
    | [a, b], hF, kk =>
      walk_at "rd"
      rw [figs_str, e0]
      unfold Txt.stripChars
      rw [strip2, has_figs, has_figs]
      cases hd : dig a with
      | false =>
        simp only [manyOf, hd, Bool.false_and] at kk
        refine iteNT (fun z => ?_) ?_
        · have q := V.str.inj z
          cases hd2 : dig b with
          | false => rw [hd2] at q; exact absurd (S_inj q) (by simp)
          | true => rw [hd2] at q; exact absurd (S_inj q) (by simp)
        · walk_at "rd"
          exact kk
      | true =>
        cases hd2 : dig b with
        | false =>
          simp only [manyOf, hd, hd2, Bool.and_false, Bool.false_and] at kk
          refine iteNT (fun z => absurd (S_inj (V.str.inj z)) (by simp)) ?_
          walk_at "rd"
          exact kk
        | true =>
          refine iteNF rfl ?_
          refine ⟨_, rfl, ?_⟩
          refine ⟨_, _, a, rfl, rfl, hF, rfl, ?_⟩
          rw [eZ]
          walk_at "rd"
          refine iteD (fun hz => ?_) (fun hz => ?_)
          · obtain rfl : a = 48 := by
              have := S_inj (V.str.inj hz)
              simpa using this
            walk_at "rd"
            have em : manyOf [48, b] = none := by simp [manyOf]
            rw [em] at kk
            exact kk
          · have ha : ¬ a = 48 := fun z => hz (by rw [z])
            walk_at "rd"
            have em : manyOf [a, b] = some ((a - 48) * 10 + (b - 48)) := by simp [manyOf, hd, hd2, ha]
            rw [em] at kk
            refine ⟨S [a, b], _, rfl, int2 hd hd2, by show (2 : Nat) ≤ 640; decide, ?_⟩
            walk_at "rd"
            generalize (a - 48) * 10 + (b - 48) = m at kk ⊢
            have hM : (S (menu l)).length ≤ sizeLine := by
              rw [S_len]
              unfold menu
              split
              · decide
              · split <;> decide
            refine iteD (fun h2 => ?_) (fun h2 => ?_)
            · walk_at "rd"
              rw [S_len]
              by_cases h3 : m ≤ (menu l).length
              · refine iteNF (show (m : Int) ≤ ((menu l).length : Int) by omega) ?_
                have e2 : (2 ≤ m ∧ m ≤ (menu l).length) := ⟨by omega, h3⟩
                simp only [e2, and_self, if_true] at kk
                walk_at "rd"
                rw [cut_to]
                exact kk
              · refine iteNT (show ¬ (m : Int) ≤ ((menu l).length : Int) by omega) ?_
                have e2 : ¬ (2 ≤ m ∧ m ≤ (menu l).length) := fun z => h3 z.2
                simp only [if_neg e2] at kk
                walk_at "rd"
                exact kk
            · have e2 : ¬ (2 ≤ m ∧ m ≤ (menu l).length) := fun z => h2 (by omega)
              simp only [if_neg e2] at kk
              walk_at "rd"
              exact kk
    | a :: b :: c :: r, hF, kk =>
      walk_at "rd"
      have e3 : ((a :: b :: c :: r).length : Int) = (r.length : Int) + 3 := by simp only [List.length_cons]; omega
      refine iteDT (by rw [e3]; omega) ?_
      walk_at "rd"
      refine iteNT (by rw [e3]; omega) ?_
      walk_at "rd"
      exact kk
end

/-! over trees -/
/-- a def that leaves the heap but for what is new -/
theorem fin_same {M : Addr → Prop} {H H' : Hp} {z : Z} (s : Same H H') (pot : PotOk H z) (pm : ∀ a, z.p = some a → ¬ M a) : Fin M H z H' z :=
  ⟨fun a h => (pot a h).to fun o q => s a o q, pm, fun a h => .inl h, fun a o h _ => s a o h, fun a h => by
    cases q : H a with
    | none => exact absurd q h
    | some o => rw [s a o q]; exact Option.some_ne_none _⟩
@[irreducible] def spSigns : PSp := fun ds z R _ => ∃ (l : List Nat), ds = [.str (S l)] ∧ l.length ≤ 100000 ∧ R (match signsOf l with | some r => .str (S r) | none => .non) z
theorem use_signs {l : List Nat} {z : Z} {R : D → Z → Prop} {E : PX} (hl : l.length ≤ 100000) (k : R (match signsOf l with | some r => .str (S r) | none => .non) z) : spSigns [.str (S l)] z R E := by
  unfold spSigns
  exact ⟨l, rfl, hl, k⟩
section
variable {P : Program} {w : World} {K : PySem.W.Frag} {mg : Str → Option Value} {base : Heap} {f : Addr} {fd : FuncData}
theorem ok_signs_by (F : Fun K "signs_by" "signs_by" s_signs_by f fd) (T : T14 mg) : FnG P w K mg base CX0 1 f fd signs_by.ps (lift K spSigns) := (ok_signs_by0 F T).imp fun vs H Q E h => by
  unfold lift at h
  obtain ⟨M, ds, z, R, RX, al, pot, pm, r, h, k1, k2⟩ := h
  unfold spSigns at h
  obtain ⟨l, rfl, hl, k⟩ := h
  obtain ⟨v, rfl, r1⟩ := reps1 r
  obtain rfl := RepP.str (z := z) (.inl r1)
  unfold spSigns0
  refine ⟨l, rfl, hl, fun H' sm => k1 _ z _ H' k (fin_same sm pot pm) ?_⟩
  cases signsOf l with
  | none => exact .n
  | some r => exact .s
end

end K14

set_option Elab.async false
set_option linter.all false
set_option maxRecDepth 100000
set_option maxHeartbeats 2000000
namespace K14
open PySem L2 Lay RZ SkE SX
/-! ### reading steps over trees -/
local macro_rules | `(tactic| walk_at "d") => `(tactic| try simp -implicitDefEqProofs only [cxK, noxK, wishK, startD, startI, List.map_cons, List.map_nil, List.length_cons, List.length_nil, List.length_singleton, Nat.zero_add, Nat.reduceAdd, Nat.reduceSub, Nat.add_one_sub_one, List.replicate_succ, List.replicate_zero, List.cons_append, List.nil_append, List.append_nil,
  ap_dVar, ap_dPeek, ap_dC, ap_dOp, ap_dTest, ap_dChain, ap_dTru, ap_dAndB, ap_dOrB, ap_dNotB, ap_dAnd, ap_dOr, ap_dNot, ap_dNil, ap_dCons, ap_dTup, ap_dLst, ap_dLet, ap_dSized, ap_dUn, ap_dNoPart, ap_dPart, ap_dSl, ap_dFn, ap_dMt, ap_dMt0, ap_dFs, ap_dFmt, ap_dJoin, ap_dNext, ap_dSeq, ap_dDrop, ap_dRet, ap_dIf, ap_dAsg, ap_dSet, ap_dOwn, ap_dAppend, ap_dAug, ap_dFldS, ap_dPar, ap_dPar3, ap_dIt, ap_dItA, ap_dFor, ap_dLc, ap_dYes, ap_dCall, ap_dCall0, ap_dCallKw, ap_dCallKw0, ap_dMeth, ap_dMeth0, ap_dMethKw, ap_dOne, ap_dFmtO, ap_dEqO, ap_dReqO, ap_dMake, ap_dMake0, ap_dMakeKw, ap_dMakeKw0, ap_dRaise, ap_dPair, ap_dCat, ex_obj1, ex_obj2, ex_ins1, ex_ins2, ex_str, ex_own, ex_val, ap_ix0, ap_ix1, ap_ix2, e_lenOk, e_isStr, le_sz0, le_sz1, le_sz2, le_sz3, le_sz4, le_sz5, le_sz6, le_sz7, le_sz8, ap_dIfE, ap_isD, ap_in1, ap_in2, ap_in3, ap_isi, ap_sum, ap_any, ap_dJs0, ap_dJs1, ap_dgName, ap_dgTup, ap_dgCons, ap_dgNil, ap_dTry, ap_dXf, e_tru1, e_tru2, e_tru3, e_tru4, e_tru5, e_tru6, e_tru7, e_fmtD1, e_fmtD2, e_iterD1, e_iterD2, e_iterD3, e_iterD4, e_addD1, e_addD2, e_addD3, e_addD4, e_subD1, e_mulD1, e_mulD2, e_mulD3, e_fdivD1, e_modD1, e_powD1, e_cmpD1, e_cmpD2, e_eqD1, e_eqD2, e_eqD3, e_eqD4, e_eqD5, e_eqD6, e_eqD7, e_eqD8, e_eqD9, e_eqD10, e_eqD11, e_eqD12, e_eqD13, e_eqD14, e_isNonD1, e_negD1, e_ixD1, e_ixD2, e_ixD3, e_ixD4, e_slD1, e_slD2, e_slD3, e_slD4, e_lenD1, e_lenD2, e_lenD3, e_lenD4, e_absD1, e_mmD1, e_intD1, e_intD2, e_intD3, e_strD1, e_strD2, e_tupleD1, e_tupleD2, e_tupleD3, e_listD1, e_listD2, e_listD3, e_splitD1, e_joinD1, e_joinD2, e_str1D1, e_iaddD1, e_iaddD2, e_imulD1, e_ifdivD1, e_enumD1, e_enumD2, e_zipF1, e_zipF2, e_rng11, e_rng21, e_rng31, e_fldD1, e_dixD1, e_dixD2, e_revSD1, e_catD1, ap_dTryK, ap_dSetX, kx_any, kx_val, kx_own, kx_exc, e_xfD, e_nonX, e_rngW, ap_dExtend, e_extD, ap_best, ap_dItR, e_revF1, e_revF2, e_revF3, ap_dTryN, ap_dRaiseU, ap_dSplitN, e_splitN, ap_dSetIx, e_setD, e_zipG, ap_dTupO, e_caseD, e_rngS, e_enumG, ap_dInO, ap_dPopSet, e_popD, ap_dAppPop, ap_dPairON, ap_dListN, e_listN1, e_listN2, e_listN3, e_listN4, ltD, leD, gtD, geD, minD, maxD, wipeD,
  List.set_cons_zero, List.set_cons_succ, List.getElem?_cons_zero, List.getElem?_cons_succ, List.length_set, if_true, if_false, Bool.false_eq_true, reduceIte, id, Bool.not_true, Bool.not_false, true_and, and_true, List.zip_cons_cons, List.zip_nil_right, List.zip_nil_left, reduceCtorEq, Option.some.injEq,
  Nat.reduceLT, Nat.reduceLeDiff, Nat.reduceEqDiff, and_self, ite_self, decide_true, decide_false, eq_self])
local macro_rules | `(tactic| walk_at "ds") => `(tactic| first | rfl | decide | assumption | omega | exact Nat.le_of_ble_eq_true rfl)

/-! ### the class Grid -/
/-- a text's words -/
def wordsOf (l : List Nat) : List (List Nat) := TL.spl [32] 0 [] l
theorem spl_len (Z : List Nat) : ∀ (l : List Nat) (k : Nat) (acc : List Nat), ∀ w ∈ TL.spl Z k acc l, w.length ≤ acc.length + l.length := by
  intro l
  induction l with
  | nil => intro k acc w hw; rw [TL.spl_nil] at hw; rw [List.mem_singleton.mp hw]; simp
  | cons c r ih =>
    intro k acc w hw
    rw [List.length_cons]
    cases k with
    | succ k =>
      have e : TL.spl Z (k + 1) acc (c :: r) = TL.spl Z k acc r := rfl
      rw [e] at hw
      have := ih k acc w hw
      omega
    | zero =>
      cases hp : TL.pre Z (c :: r) with
      | true =>
        rw [TL.spl_hit hp] at hw
        rcases List.mem_cons.mp hw with rfl | hw
        · omega
        · have := ih _ [] w hw
          rw [List.length_nil] at this
          omega
      | false =>
        rw [TL.spl_miss hp] at hw
        have := ih 0 (acc ++ [c]) w hw
        rw [List.length_append, List.length_singleton] at this
        omega
theorem words_len {l w : List Nat} (h : w ∈ wordsOf l) : w.length ≤ l.length := by
  have := spl_len [32] l 0 [] w h
  rw [List.length_nil] at this
  omega
/-- the first word that is none, by its number -/
def badAt : Nat → List (List Nat) → Option Nat
  | _, [] => none
  | i, w :: r => if i = 5 ∨ signsOf w = none then some i else badAt (i + 1) r
def strsD (al : List (List Nat)) : List D := al.map fun a => .str (S a)
section
variable {P : Program} {w : World} {K : PySem.W.Frag} {mg : Str → Option Value} {base : Heap} {f : Addr} {fd : FuncData} {CG CB CE : Addr}
abbrev s_BadGrid_init : Stmt := (inClass (top 3) 0)
abbrev BadGrid_init.N : List Str := ["self", "at"]
abbrev BadGrid_init.ps : List Str := ["self", "at"]
theorem sc_BadGrid_init : FnScope BadGrid_init.N BadGrid_init.ps (defScope s_BadGrid_init) := ⟨rfl, rfl, rfl, by decide +kernel, rfl, by decide +kernel, by decide +kernel⟩
theorem ok_BadGrid_init (F : Fun K "__init__" "BadGrid.__init__" s_BadGrid_init f fd) (O : OexC K CB) (hno : PySem.W.findIn K (.ref CB) "at" = some none) (B_GridError : GBase K mg "GridError" CE) :
    FnOk P w K mg base CX0 1 f fd BadGrid_init.ps (spX CB ["at"]) := by
  refine F.ok sc_BadGrid_init (fun vs H Q E h => ?_) (fun cdv A outer s H vs Q E hr h => ?_)
  · obtain ⟨a, ws, rfl, hl, _⟩ := h
    match ws, hl with
    | [_], _ => rfl
  · obtain ⟨a, ws, rfl, hl, ha, k⟩ := h
    match ws, hl with
    | [v], _ =>
      refine ⟨_, (pss_cons (ps_expr (pe_ginit rfl B_GridError.mgx B_GridError.sg B_GridError.rd B_GridError.vV (pa_cons (pv 0) (pa_cons pe_str pa_nil))))
      (pss_one (ps_ost (pv 0) (pv 1) rfl))), ?_⟩
      refine ⟨_, rfl, a, CB, _, rfl, by decide, O, ha, ?_⟩
      refine ⟨_, rfl, _, rfl, a, CB, rfl, O, hno, .inl ⟨ha, fun dx hd n => ?_⟩⟩
      exact k dx hd n
/-- a text and its signs, level by level -/
structure GOk (l : List Nat) (al : List (List Nat)) : Prop where
  len : l.length ≤ 100000
  bad : badAt 0 (wordsOf l) = none
  sg : (wordsOf l).map signsOf = al.map some
def gridD (CG : Addr) (l : List Nat) (al : List (List Nat)) : D := .ins CG ["text", "alphabets"] [.str (S l), .tup (strsD al)]
theorem badAt_len : ∀ {ws : List (List Nat)} {i : Nat}, i ≤ 5 → badAt i ws = none → i + ws.length ≤ 5
  | [], i, hi, _ => hi
  | w :: ws, i, hi, h => by
    unfold badAt at h
    split at h
    · cases h
    · rename_i hn
      have h5 : i ≠ 5 := fun e => hn (.inl e)
      have := badAt_len (i := i + 1) (by omega) h
      rw [List.length_cons]
      omega
theorem GOk.many {l : List Nat} {al : List (List Nat)} (g : GOk l al) : al.length ≤ 5 := by
  have h := badAt_len (Nat.zero_le 5) g.bad
  have e := congrArg List.length g.sg
  rw [List.length_map, List.length_map] at e
  omega
theorem signs_size {w r : List Nat} (h : signsOf w = some r) : 2 ≤ r.length ∧ r.length ≤ 24 := by
  unfold signsOf at h
  split at h
  · split at h
    · rename_i hm
      cases h
      have hl : (menu (w)).length ≤ 24 := by
        unfold menu
        split
        · decide
        · split <;> decide
      rw [List.length_take]
      omega
    · cases h
  · cases h
theorem GOk.size {l a : List Nat} {al : List (List Nat)} (g : GOk l al) (h : a ∈ al) : 2 ≤ a.length ∧ a.length ≤ 24 := by
  have : some a ∈ al.map some := List.mem_map_of_mem h
  rw [← g.sg] at this
  obtain ⟨w, _, e⟩ := List.mem_map.mp this
  exact signs_size e
theorem GOk.same {l : List Nat} {al am : List (List Nat)} (g : GOk l al) (h : GOk l am) : al = am := by
  have e := g.sg.symm.trans h.sg
  have e2 := congrArg (List.map fun o : Option (List Nat) => o.getD []) e
  simpa only [List.map_map, Function.comp_def, Option.getD_some, List.map_id'] using e2
theorem strsD_len (al : List (List Nat)) : (strsD al).length = al.length := List.length_map ..
theorem strsD_snoc (al : List (List Nat)) (r : List Nat) : strsD al ++ [.str (S r)] = strsD (al ++ [r]) := by unfold strsD; rw [List.map_append]; rfl
/-- Grid(text) -/
@[irreducible] def spGrid (K : PySem.W.Frag) (CB : Addr) : ISp := fun ds z R RX => (∃ l : List Nat, ds = [.str (S l)] ∧ l.length ≤ 100000 ∧
    (∀ al : List (List Nat), GOk l al → R ["text", "alphabets"] [.str (S l), .tup (strsD al)] z) ∧
    ∀ i, badAt 0 (wordsOf l) = some i → RX CB ["at"] [.int (i : Int)] z) ∨
  ∃ d t, ds = [d] ∧ tyD K d t ∧ PySem.W.kitOne K t (.type "str") = some false ∧ RX CB ["at"] [.non] z
abbrev s_Grid_init : Stmt := (inClass (top 11) 0)
abbrev Grid_init.N : List Str := ["self", "text", "alphabets", "at", "word", "signs"]
abbrev Grid_init.ps : List Str := ["self", "text"]
theorem sc_Grid_init : FnScope Grid_init.N Grid_init.ps (defScope s_Grid_init) := ⟨rfl, rfl, rfl, by decide +kernel, rfl, by decide +kernel, by decide +kernel⟩
theorem ok_Grid_init (F : Fun K "__init__" "Grid.__init__" s_Grid_init f fd) (O : Own K CG ["text", "alphabets"]) (X_BadGrid : ExcOk P w K mg base "BadGrid" CB ["at"] BadGrid_init.ps)
    (T : T14 mg) (C_signs_by : Callee P w K mg base CX0 1 "signs_by" s_signs_by signs_by.ps (lift K spSigns)) : FnG P w K mg base (L2.CX P w) 3 f fd Grid_init.ps (liftI K CG (spGrid K CB)) := by
  refine ibodyX F sc_Grid_init (fun ds z R RX h => ?_) fun cdv A outer s H E hr hg => ⟨_, (dss_cons (ds_if (dt_not (dt_truth (dp_of (de_fn (cd_isiK (K := K) rfl) (by rfl) T.b_isinstance (by decide +kernel) (da_cons (dp_var 1) (da_cons (dp_of (de_c (pe_bltn (v := .ty "str") (u := .type "str") (by rfl) T.b_str (by decide +kernel) rfl) (fun _ _ => Rep.t))) da_nil)))))) (dss_one (X_BadGrid.dRaise rfl rfl hr (takes_of rfl rfl rfl rfl) (das_cons de_non das_nil))) dss_nil)
      (dss_cons (ds_own (i := 2) sc_Grid_init.nd rfl (Or.inl rfl) (dn_lst das_nil))
      (dss_cons (ds_for (passes_of rfl) rfl (di_enum (by rfl) T.b_enumerate (das_cons (de_mt PySem.F.slot_str_split PySem.F.type_str_split md_split (dp_var 1) (da_cons (dp_of de_str) da_nil)) das_nil)) (dg_tup (n := 2) rfl (dgs_cons (dg_name (i := 3) sc_Grid_init.nd rfl (Or.inl rfl)) (dgs_cons (dg_name (i := 4) sc_Grid_init.nd rfl (Or.inl rfl)) dgs_nil))) (dss_cons (ds_set (i := 5) sc_Grid_init.nd rfl (Or.inl rfl) (C_signs_by.d0 rfl hr hg (atAll pass0) (das_cons (de_var 4) das_nil)))
      (dss_cons (ds_if (DWt.pt (dw_or (dt_cmp (od_eq hr.units) (dp_var 3) (dp_of (de_c (pe_globI rfl T.g_MOST_LEVELS) (fun _ _ => Rep.i))) (nomark _)) (dw_or1 (dt_cmp od_isN (dp_var 5) (dp_of de_non) (nomark _))))) (dss_one (X_BadGrid.dRaise rfl rfl hr (takes_of rfl rfl rfl rfl) (das_cons (de_var 3) das_nil))) dss_nil)
      (dss_one (ds_append (i := 2) rfl (de_var 5))))))
      (dss_cons (ds_fldS (i := 0) rfl (de_var 1) rfl)
      (dss_one (ds_fldS (i := 0) rfl (de_ty cd_tuple (by rfl) T.b_tuple (by decide +kernel) (da_cons (dp_var 2) da_nil)) rfl)))))), fun ds z R RX x h => ?_⟩
  · unfold spGrid at h
    rcases h with ⟨l, rfl, _⟩ | ⟨d, t, rfl, _⟩ <;> rfl
  · unfold spGrid at h
    rcases h with ⟨l, rfl, hl, k, k0⟩ | ⟨d, t, rfl, ht, hk, k0⟩
    · walk_at "d"
      refine ⟨.type "str", .type "str", true, rfl, rfl, rfl, ?_⟩
      walk_at "d"
      have eS : Txt.split (S l) (Str.ofString " ") = (wordsOf l).map S := by
        rw [show Str.ofString " " = S [32] by decide +kernel]
        exact split_S (List.cons_ne_nil _ _) (by decide)
      rw [eS]
      refine ⟨by decide, by rw [S_len]; exact Nat.le_trans (Nat.add_le_add_right hl 2) (by decide), ?_⟩
      generalize hw : wordsOf l = ws
      refine forD_inv (fun i ρ z' => ∃ al a3 a4 a5, ρ = [Sl.obj x CG [] [], .val (.str (S l)), .own (strsD al), a3, a4, a5] ∧ z' = z ∧ (ws.take i).map signsOf = al.map some ∧ badAt 0 ws = badAt i (ws.drop i) ∧ i ≤ 5)
        ⟨[], .any, .any, .any, rfl, rfl, rfl, rfl, by omega⟩ ?_ ?_
      · rintro i d ρ z' hd ⟨al, a3, a4, a5, rfl, rfl, h3, h4, hi⟩
        rw [List.getElem?_mapIdx, List.getElem?_map, List.getElem?_map] at hd
        cases ew : ws[i]? with
        | none => rw [ew] at hd; cases hd
        | some w =>
          rw [ew] at hd
          cases hd
          have hwl : w.length ≤ 100000 := Nat.le_trans (words_len (by rw [hw]; exact List.mem_of_getElem? ew)) hl
          have hdr : ws.drop i = w :: ws.drop (i + 1) := by
            obtain ⟨hi', e'⟩ := List.getElem?_eq_some_iff.mp ew
            rw [List.drop_eq_getElem_cons hi', e']
          have hlen : al.length = i := by
            have e := congrArg List.length h3
            rw [List.length_map, List.length_map, List.length_take] at e
            have := get_lt ew
            omega
          rw [hdr] at h4
          walk_at "d"
          refine use_signs hwl ?_
          walk_at "d"
          refine iteD (fun h5 => ?_) (fun h5 => ?_)
          · walk_at "d"
            exact k0 i (by rw [hw, h4]; unfold badAt; exact if_pos (.inl (by omega)))
          · cases hs : signsOf w with
            | none =>
              walk_at "d"
              exact k0 i (by rw [hw, h4]; unfold badAt; exact if_pos (.inr hs))
            | some r =>
              walk_at "d"
              refine ⟨by rw [strsD_len, hlen]; exact Nat.lt_of_le_of_lt hi (by decide), al ++ [r], _, _, _, congrArg (fun q => [_, _, Sl.own q, _, _, _]) (strsD_snoc al r), ?_, ?_, by omega⟩
              · rw [take_snoc ew, List.map_append, h3, List.map_append, List.map_singleton, List.map_singleton, hs]
              · rw [h4]
                have : ¬ (i = 5 ∨ signsOf w = none) := by
                  rintro (z | z)
                  · exact h5 (by omega)
                  · rw [hs] at z; cases z
                conv => lhs; unfold badAt
                rw [if_neg this]
      · rintro ρ z' ⟨al, a3, a4, a5, rfl, rfl, h3, h4, hi⟩
        have hn : (List.mapIdx (fun i d => D.tup [D.int (i : Nat), d]) (List.map D.str (List.map S ws))).length = ws.length := by rw [List.length_mapIdx, List.length_map, List.length_map]
        rw [hn, List.take_length] at h3
        rw [hn, List.drop_length] at h4
        walk_at "d"
        refine ⟨O.at (by simp), List.not_mem_nil, O.at (by simp), by decide, ?_⟩
        exact k al ⟨hl, by rw [hw]; exact h4, by rw [hw]; exact h3⟩
    · walk_at "d"
      refine ⟨t, .type "str", false, ht, rfl, hk, ?_⟩
      walk_at "d"
      exact k0
end

/-! the grid's methods -/
section
variable {P : Program} {w : World} {K : PySem.W.Frag} {mg : Str → Option Value} {base : Heap} {f : Addr} {fd : FuncData} {CG CB CE : Addr}
theorem gridD_ins (CG : Addr) (l : List Nat) (al : List (List Nat)) : ∃ ns ds, gridD CG l al = .ins CG ns ds := ⟨_, _, rfl⟩
theorem fld_text {CG : Addr} {l : List Nat} {al : List (List Nat)} {k : D → Prop} (O : Own K CG ["text", "alphabets"]) : fldD K "text" (gridD CG l al) k = k (.str (S l)) := fld_of (O.at (by simp)) rfl
theorem fld_alph {CG : Addr} {l : List Nat} {al : List (List Nat)} {k : D → Prop} (O : Own K CG ["text", "alphabets"]) : fldD K "alphabets" (gridD CG l al) k = k (.tup (strsD al)) := fld_of (O.at (by simp)) rfl
@[irreducible] def spGEq (K : PySem.W.Frag) (CG : Addr) : PSp := fun ds z R _ => ∃ l al d, ds = [gridD CG l al, d] ∧ l.length ≤ 100000 ∧
  ((∃ l2 al2, d = gridD CG l2 al2 ∧ R (.bl (decide (l = l2))) z) ∨ ∃ t, tyD K d t ∧ PySem.W.kitOne K t (.ref CG) = some false ∧ R (.bl false) z)
abbrev s_Grid_eq : Stmt := (inClass (top 11) 1)
abbrev Grid_eq.N : List Str := ["self", "other"]
abbrev Grid_eq.ps : List Str := ["self", "other"]
theorem sc_Grid_eq : FnScope Grid_eq.N Grid_eq.ps (defScope s_Grid_eq) := ⟨rfl, rfl, rfl, by decide +kernel, rfl, by decide +kernel, by decide +kernel⟩
theorem ok_Grid_eq (F : Fun K "__eq__" "Grid.__eq__" s_Grid_eq f fd) (O : Own K CG ["text", "alphabets"]) (T : T14 mg) (G_Grid : mg "Grid" = some (.ref CG)) : FnG P w K mg base CX0 1 f fd Grid_eq.ps (lift K (spGEq K CG)) := by
  refine dbody F sc_Grid_eq (fun ds z R RX h => ?_) fun cdv A outer s H E hr hg => ⟨_, (dss_one (ds_ret (de_and (de_fn (cd_isiK (K := K) rfl) (by rfl) T.b_isinstance (by decide +kernel) (da_cons (dp_var 1) (da_cons (dp_of (de_c (pe_globR rfl G_Grid) (fun _ _ => Rep.a))) da_nil))) (de_one (de_cmp (od_eq hr.units) (dp_of (de_fldK (K := K) rfl (dp_var 0) rfl)) (dp_of (de_fldK (K := K) rfl (dp_var 1) rfl)) (nomark _)))))), fun ds z R RX h => ?_⟩
  · unfold spGEq at h
    obtain ⟨l, al, d, rfl, _⟩ := h
    rfl
  · unfold spGEq at h
    obtain ⟨l, al, d, rfl, hl, ⟨l2, al2, rfl, k⟩ | ⟨t, ht, hk, k⟩⟩ := h
    · walk_at "d"
      refine ⟨.ref CG, .ref CG, true, ⟨rfl, O.oty⟩, rfl, kit_self, ?_⟩
      walk_at "d"
      rw [fld_text O]
      walk_at "d"
      rw [fld_text O]
      walk_at "d"
      have e : decide (S l = S l2) = decide (l = l2) := by
        by_cases h : l = l2
        · rw [decide_eq_true h, decide_eq_true (by rw [h])]
        · rw [decide_eq_false h, decide_eq_false (fun z => h (S_inj z))]
      rw [e]
      exact k
    · walk_at "d"
      refine ⟨t, .ref CG, false, ht, rfl, hk, ?_⟩
      walk_at "d"
      exact k
@[irreducible] def spGLen (CG : Addr) : PSp := fun ds z R _ => ∃ l al, ds = [gridD CG l al] ∧ R (.int al.length) z
abbrev s_Grid_len : Stmt := (inClass (top 11) 2)
abbrev Grid_len.N : List Str := ["self"]
abbrev Grid_len.ps : List Str := ["self"]
theorem sc_Grid_len : FnScope Grid_len.N Grid_len.ps (defScope s_Grid_len) := ⟨rfl, rfl, rfl, by decide +kernel, rfl, by decide +kernel, by decide +kernel⟩
theorem ok_Grid_len (F : Fun K "__len__" "Grid.__len__" s_Grid_len f fd) (O : Own K CG ["text", "alphabets"]) (T : T14 mg) : FnG P w K mg base CX0 1 f fd Grid_len.ps (lift K (spGLen CG)) := by
  refine dbody F sc_Grid_len (fun ds z R RX h => ?_) fun cdv A outer s H E hr hg => ⟨_, (dss_one (ds_ret (de_fn cd_len (by rfl) T.b_len (by decide +kernel) (da_cons (dp_of (de_fldK (K := K) rfl (dp_var 0) rfl)) da_nil)))), fun ds z R RX h => ?_⟩
  · unfold spGLen at h
    obtain ⟨l, al, rfl, _⟩ := h
    rfl
  · unfold spGLen at h
    obtain ⟨l, al, rfl, k⟩ := h
    walk_at "d"
    rw [fld_alph O]
    walk_at "d"
    rw [strsD_len]
    exact k
@[irreducible] def spGStr (CG : Addr) : PSp := fun ds z R _ => ∃ l al, ds = [gridD CG l al] ∧ R (.str (S l)) z
abbrev s_Grid_str : Stmt := (inClass (top 11) 3)
abbrev Grid_str.N : List Str := ["self"]
abbrev Grid_str.ps : List Str := ["self"]
theorem sc_Grid_str : FnScope Grid_str.N Grid_str.ps (defScope s_Grid_str) := ⟨rfl, rfl, rfl, by decide +kernel, rfl, by decide +kernel, by decide +kernel⟩
theorem ok_Grid_str (F : Fun K "__str__" "Grid.__str__" s_Grid_str f fd) (O : Own K CG ["text", "alphabets"]) (T : T14 mg) : FnG P w K mg base CX0 1 f fd Grid_str.ps (lift K (spGStr CG)) := by
  refine dbody F sc_Grid_str (fun ds z R RX h => ?_) fun cdv A outer s H E hr hg => ⟨_, (dss_one (ds_ret (de_ty cd_str (by rfl) T.b_str (by decide +kernel) (da_cons (dp_of (de_fldK (K := K) rfl (dp_var 0) rfl)) da_nil)))), fun ds z R RX h => ?_⟩
  · unfold spGStr at h
    obtain ⟨l, al, rfl, _⟩ := h
    rfl
  · unfold spGStr at h
    obtain ⟨l, al, rfl, k⟩ := h
    walk_at "d"
    rw [fld_text O]
    walk_at "d"
    exact k
def greprL (l : List Nat) : List Nat := [71, 114, 105, 100, 40, 39] ++ l ++ [39, 41]
@[irreducible] def spGRepr (CG : Addr) : PSp := fun ds z R _ => ∃ l al, ds = [gridD CG l al] ∧ l.length ≤ 100000 ∧ R (.str (S (greprL l))) z
abbrev s_Grid_repr : Stmt := (inClass (top 11) 4)
abbrev Grid_repr.N : List Str := ["self"]
abbrev Grid_repr.ps : List Str := ["self"]
theorem sc_Grid_repr : FnScope Grid_repr.N Grid_repr.ps (defScope s_Grid_repr) := ⟨rfl, rfl, rfl, by decide +kernel, rfl, by decide +kernel, by decide +kernel⟩
theorem ok_Grid_repr (F : Fun K "__repr__" "Grid.__repr__" s_Grid_repr f fd) (O : Own K CG ["text", "alphabets"]) (T : T14 mg) : FnG P w K mg base CX0 1 f fd Grid_repr.ps (lift K (spGRepr CG)) := by
  refine dbody F sc_Grid_repr (fun ds z R RX h => ?_) fun cdv A outer s H E hr hg => ⟨_, (dss_one (ds_ret (de_joined (pj_cons df_str (pj_cons (df_fmt (dp_of (de_fldK (K := K) rfl (dp_var 0) rfl))) (pj_cons df_str pj_nil)))))), fun ds z R RX h => ?_⟩
  · unfold spGRepr at h
    obtain ⟨l, al, rfl, _⟩ := h
    rfl
  · unfold spGRepr at h
    obtain ⟨l, al, rfl, hl, k⟩ := h
    walk_at "d"
    rw [fld_text O]
    walk_at "d"
    rw [show Str.ofString "Grid('" = S [71, 114, 105, 100, 40, 39] by decide +kernel, show Str.ofString "')" = S [39, 41] by decide +kernel, show Str.empty = S [] from rfl, S_cat, S_cat, S_cat, S_len, S_len, S_len, S_len]
    have hz : 100010 ≤ sizeLine := by decide
    refine ⟨by decide, by omega, by rw [List.length_append]; show 6 + _ ≤ _; omega, by rw [List.length_append, List.length_append]; show 6 + _ + 2 ≤ _; omega, k⟩
@[irreducible] def spAlphabet (CG : Addr) : PSp := fun ds z R _ => ∃ (l : List Nat) (al : List (List Nat)) (k : Nat) (a : List Nat), ds = [gridD CG l al, .int ((k : Int) + 1)] ∧ al[k]? = some a ∧ R (.str (S a)) z
abbrev s_Grid_alphabet : Stmt := (inClass (top 11) 5)
abbrev Grid_alphabet.N : List Str := ["self", "level"]
abbrev Grid_alphabet.ps : List Str := ["self", "level"]
theorem sc_Grid_alphabet : FnScope Grid_alphabet.N Grid_alphabet.ps (defScope s_Grid_alphabet) := ⟨rfl, rfl, rfl, by decide +kernel, rfl, by decide +kernel, by decide +kernel⟩
theorem ok_Grid_alphabet (F : Fun K "alphabet" "Grid.alphabet" s_Grid_alphabet f fd) (O : Own K CG ["text", "alphabets"]) : FnG P w K mg base CX0 1 f fd Grid_alphabet.ps (lift K (spAlphabet CG)) := by
  refine dbody F sc_Grid_alphabet (fun ds z R RX h => ?_) fun cdv A outer s H E hr hg => ⟨_, (dss_one (ds_ret (de_ix od_ix (dp_of (de_fldK (K := K) rfl (dp_var 0) rfl)) (dp_of (de_op od_sub (dp_var 1) (dp_of de_int))) (fun _ _ => rfl)))), fun ds z R RX h => ?_⟩
  · unfold spAlphabet at h
    obtain ⟨l, al, k, a, rfl, _⟩ := h
    rfl
  · unfold spAlphabet at h
    obtain ⟨l, al, k, a, rfl, ha, k⟩ := h
    walk_at "d"
    rw [fld_alph O]
    walk_at "d"
    rw [Int.add_sub_cancel]
    exact ⟨_, atI_nat (by unfold strsD; rw [List.getElem?_map, ha]; rfl), k⟩
@[irreducible] def spCut (CG : Addr) : PSp := fun ds z R _ => ∃ (l : List Nat) (al : List (List Nat)) (k : Nat) (a : List Nat), ds = [gridD CG l al, .int ((k : Int) + 1)] ∧ al[k]? = some a ∧ a.length ≤ 100 ∧ R (.int a.length) z
abbrev s_Grid_cut : Stmt := (inClass (top 11) 6)
abbrev Grid_cut.N : List Str := ["self", "level"]
abbrev Grid_cut.ps : List Str := ["self", "level"]
theorem sc_Grid_cut : FnScope Grid_cut.N Grid_cut.ps (defScope s_Grid_cut) := ⟨rfl, rfl, rfl, by decide +kernel, rfl, by decide +kernel, by decide +kernel⟩
theorem ok_Grid_cut (F : Fun K "cut" "Grid.cut" s_Grid_cut f fd) (O : Own K CG ["text", "alphabets"]) (T : T14 mg) (C_Grid_alphabet : Method P w K mg base CX0 1 CG "alphabet" (dR s_Grid_alphabet "alphabet" "Grid.alphabet" K) Grid_alphabet.ps (lift K (spAlphabet CG))) : FnG P w K mg base CX0 2 f fd Grid_cut.ps (lift K (spCut CG)) := by
  refine dbody F sc_Grid_cut (fun ds z R RX h => ?_) fun cdv A outer s H E hr hg => ⟨_, (dss_one (ds_ret (de_fn cd_len (by rfl) T.b_len (by decide +kernel) (da_cons (dp_of (C_Grid_alphabet.d0 (de_var 0) hr hg (atAll pass0) (das_cons (de_var 1) das_nil))) da_nil)))), fun ds z R RX h => ?_⟩
  · unfold spCut at h
    obtain ⟨l, al, k, a, rfl, _⟩ := h
    rfl
  · unfold spCut at h
    obtain ⟨l, al, k, a, rfl, ha, hl, k⟩ := h
    walk_at "d"
    refine ⟨⟨_, _, rfl, by decide⟩, ?_⟩
    unfold spAlphabet
    refine ⟨l, al, _, a, rfl, ha, ?_⟩
    walk_at "d"
    rw [S_len]
    exact ⟨Nat.le_trans hl (by decide), k⟩
def prodL : List (List Nat) → Int
  | [] => 1
  | a :: r => a.length * prodL r
theorem prodL_snoc : ∀ (ws : List (List Nat)) (a : List Nat), prodL (ws ++ [a]) = prodL ws * a.length
  | [], a => by show (a.length : Int) * 1 = 1 * a.length; omega
  | w :: ws, a => by
    show (w.length : Int) * prodL (ws ++ [a]) = w.length * prodL ws * a.length
    rw [prodL_snoc ws a, Int.mul_assoc]
theorem prodL_bd : ∀ {ws : List (List Nat)}, (∀ a ∈ ws, 2 ≤ a.length ∧ a.length ≤ 24) → 1 ≤ prodL ws ∧ prodL ws ≤ 24 ^ ws.length
  | [], _ => ⟨by decide, by decide⟩
  | w :: ws, h => by
    obtain ⟨h1, h2⟩ := prodL_bd fun a m => h a (List.mem_cons_of_mem _ m)
    obtain ⟨h3, h4⟩ := h w List.mem_cons_self
    show 1 ≤ (w.length : Int) * prodL ws ∧ (w.length : Int) * prodL ws ≤ 24 ^ (ws.length + 1)
    have e : (24 : Int) ^ (ws.length + 1) = 24 * 24 ^ ws.length := by rw [Int.pow_succ, Int.mul_comm]
    rw [e]
    refine ⟨?_, Int.mul_le_mul (by omega) h2 (by omega) (by omega)⟩
    have : (1 : Int) * 1 ≤ w.length * prodL ws := Int.mul_le_mul (by omega) h1 (by omega) (by omega)
    omega
theorem GOk.sub {l : List Nat} {al ws : List (List Nat)} (g : GOk l al) (h : ∀ a ∈ ws, a ∈ al) (hl : ws.length ≤ al.length) : 1 ≤ prodL ws ∧ prodL ws ≤ 7962624 := by
  obtain ⟨h1, h2⟩ := prodL_bd (ws := ws) fun a m => g.size (h a m)
  have h3 : ws.length ≤ 5 := Nat.le_trans hl g.many
  have h4 : (24 : Int) ^ ws.length ≤ 24 ^ 5 := by exact_mod_cast Nat.pow_le_pow_right (by decide : 0 < 24) h3
  exact ⟨h1, Int.le_trans h2 (Int.le_trans h4 (by decide))⟩
theorem cutL_from {α : Type} (xs : List α) (k : Nat) : cutL xs (some (k : Int)) none = xs.drop k := by
  unfold cutL
  rw [HT.sIx_nat, HT.sIx_none]
  by_cases h : k ≤ xs.length
  · rw [Nat.min_eq_left h, List.take_of_length_le (by rw [List.length_drop]; exact Nat.le_refl _)]
  · rw [Nat.min_eq_right (by omega), List.drop_of_length_le (Nat.le_refl _), List.drop_of_length_le (by omega), List.take_nil]
@[irreducible] def spSide (CG : Addr) : PSp := fun ds z R _ => ∃ (l : List Nat) (al : List (List Nat)) (k : Nat), ds = [gridD CG l al, .int (k : Int)] ∧ GOk l al ∧ k ≤ al.length ∧ R (.int (prodL (al.drop k))) z
abbrev s_Grid_side : Stmt := (inClass (top 11) 7)
abbrev Grid_side.N : List Str := ["self", "level", "found", "signs"]
abbrev Grid_side.ps : List Str := ["self", "level"]
theorem sc_Grid_side : FnScope Grid_side.N Grid_side.ps (defScope s_Grid_side) := ⟨rfl, rfl, rfl, by decide +kernel, rfl, by decide +kernel, by decide +kernel⟩
theorem ok_Grid_side (F : Fun K "side" "Grid.side" s_Grid_side f fd) (O : Own K CG ["text", "alphabets"]) (T : T14 mg) : FnG P w K mg base CX0 1 f fd Grid_side.ps (lift K (spSide CG)) := by
  refine dbody F sc_Grid_side (fun ds z R RX h => ?_) fun cdv A outer s H E hr hg => ⟨_, (dss_cons (ds_set (i := 2) sc_Grid_side.nd rfl (Or.inl rfl) de_int)
      (dss_cons (ds_for PassesOwn.never rfl (di_any (de_slice sd_sl (dp_of (de_fldK (K := K) rfl (dp_var 0) rfl)) (do_some (de_var 1)) do_none)) (dg_name (i := 3) sc_Grid_side.nd rfl (Or.inl rfl)) (dss_one (ds_aug (i := 2) sc_Grid_side.nd rfl (Or.inl rfl) (dp_of (de_fn cd_len (by rfl) T.b_len (by decide +kernel) (da_cons (dp_var 3) da_nil))) id_mul)))
      (dss_one (ds_ret (de_var 2))))), fun ds z R RX h => ?_⟩
  · unfold spSide at h
    obtain ⟨l, al, k, rfl, _⟩ := h
    rfl
  · unfold spSide at h
    obtain ⟨l, al, n, rfl, g, hk, k⟩ := h
    walk_at "d"
    rw [fld_alph O]
    walk_at "d"
    rw [cutL_from, show (strsD al).drop n = strsD (al.drop n) from List.map_drop.symm]
    refine forD_inv (fun i ρ z' => ∃ a, ρ = [.val (gridD CG l al), .val (.int n), .val (.int (prodL ((al.drop n).take i))), a] ∧ z' = z) ⟨.any, rfl, rfl⟩ ?_ ?_
    · rintro i d ρ z' hd ⟨a, rfl, rfl⟩
      unfold strsD at hd
      rw [List.getElem?_map] at hd
      obtain ⟨w, ew, rfl⟩ := Option.map_eq_some_iff.mp hd
      have hm : w ∈ al := List.mem_of_mem_drop (List.mem_of_getElem? ew)
      have hw := g.size hm
      obtain ⟨b1, b2⟩ := g.sub (ws := (al.drop n).take i) (fun a m => List.mem_of_mem_drop (List.mem_of_mem_take m)) (by rw [List.length_take, List.length_drop]; omega)
      walk_at "d"
      rw [S_len]
      refine ⟨Nat.le_trans hw.2 (by decide), mulw_s (by omega) (by omega) (by omega) (by omega), .val (.str (S w)), ?_⟩
      rw [take_snoc ew, prodL_snoc]
    · rintro ρ z' ⟨a, rfl, rfl⟩
      walk_at "d"
      rw [List.take_of_length_le (by rw [strsD_len]; exact Nat.le_refl _)]
      exact k
end

end K14

set_option Elab.async false
set_option linter.all false
set_option maxRecDepth 100000
set_option maxHeartbeats 2000000
namespace K14
open PySem L2 Lay RZ SkE SX
/-! ### reading steps over trees -/
local macro_rules | `(tactic| walk_at "d") => `(tactic| try simp -implicitDefEqProofs only [cxK, noxK, wishK, startD, startI, List.map_cons, List.map_nil, List.length_cons, List.length_nil, List.length_singleton, Nat.zero_add, Nat.reduceAdd, Nat.reduceSub, Nat.add_one_sub_one, List.replicate_succ, List.replicate_zero, List.cons_append, List.nil_append, List.append_nil,
  ap_dVar, ap_dPeek, ap_dC, ap_dOp, ap_dTest, ap_dChain, ap_dTru, ap_dAndB, ap_dOrB, ap_dNotB, ap_dAnd, ap_dOr, ap_dNot, ap_dNil, ap_dCons, ap_dTup, ap_dLst, ap_dLet, ap_dSized, ap_dUn, ap_dNoPart, ap_dPart, ap_dSl, ap_dFn, ap_dMt, ap_dMt0, ap_dFs, ap_dFmt, ap_dJoin, ap_dNext, ap_dSeq, ap_dDrop, ap_dRet, ap_dIf, ap_dAsg, ap_dSet, ap_dOwn, ap_dAppend, ap_dAug, ap_dFldS, ap_dPar, ap_dPar3, ap_dIt, ap_dItA, ap_dFor, ap_dLc, ap_dYes, ap_dCall, ap_dCall0, ap_dCallKw, ap_dCallKw0, ap_dMeth, ap_dMeth0, ap_dMethKw, ap_dOne, ap_dFmtO, ap_dEqO, ap_dReqO, ap_dMake, ap_dMake0, ap_dMakeKw, ap_dMakeKw0, ap_dRaise, ap_dPair, ap_dCat, ex_obj1, ex_obj2, ex_ins1, ex_ins2, ex_str, ex_own, ex_val, ap_ix0, ap_ix1, ap_ix2, e_lenOk, e_isStr, le_sz0, le_sz1, le_sz2, le_sz3, le_sz4, le_sz5, le_sz6, le_sz7, le_sz8, ap_dIfE, ap_isD, ap_in1, ap_in2, ap_in3, ap_isi, ap_sum, ap_any, ap_dJs0, ap_dJs1, ap_dgName, ap_dgTup, ap_dgCons, ap_dgNil, ap_dTry, ap_dXf, e_tru1, e_tru2, e_tru3, e_tru4, e_tru5, e_tru6, e_tru7, e_fmtD1, e_fmtD2, e_iterD1, e_iterD2, e_iterD3, e_iterD4, e_addD1, e_addD2, e_addD3, e_addD4, e_subD1, e_mulD1, e_mulD2, e_mulD3, e_fdivD1, e_modD1, e_powD1, e_cmpD1, e_cmpD2, e_eqD1, e_eqD2, e_eqD3, e_eqD4, e_eqD5, e_eqD6, e_eqD7, e_eqD8, e_eqD9, e_eqD10, e_eqD11, e_eqD12, e_eqD13, e_eqD14, e_isNonD1, e_negD1, e_ixD1, e_ixD2, e_ixD3, e_ixD4, e_slD1, e_slD2, e_slD3, e_slD4, e_lenD1, e_lenD2, e_lenD3, e_lenD4, e_absD1, e_mmD1, e_intD1, e_intD2, e_intD3, e_strD1, e_strD2, e_tupleD1, e_tupleD2, e_tupleD3, e_listD1, e_listD2, e_listD3, e_splitD1, e_joinD1, e_joinD2, e_str1D1, e_iaddD1, e_iaddD2, e_imulD1, e_ifdivD1, e_enumD1, e_enumD2, e_zipF1, e_zipF2, e_rng11, e_rng21, e_rng31, e_fldD1, e_dixD1, e_dixD2, e_revSD1, e_catD1, ap_dTryK, ap_dSetX, kx_any, kx_val, kx_own, kx_exc, e_xfD, e_nonX, e_rngW, ap_dExtend, e_extD, ap_best, ap_dItR, e_revF1, e_revF2, e_revF3, ap_dTryN, ap_dRaiseU, ap_dSplitN, e_splitN, ap_dSetIx, e_setD, e_zipG, ap_dTupO, e_caseD, e_rngS, e_enumG, ap_dInO, ap_dPopSet, e_popD, ap_dAppPop, ap_dPairON, ap_dListN, e_listN1, e_listN2, e_listN3, e_listN4, ltD, leD, gtD, geD, minD, maxD, wipeD,
  List.set_cons_zero, List.set_cons_succ, List.getElem?_cons_zero, List.getElem?_cons_succ, List.length_set, if_true, if_false, Bool.false_eq_true, reduceIte, id, Bool.not_true, Bool.not_false, true_and, and_true, List.zip_cons_cons, List.zip_nil_right, List.zip_nil_left, reduceCtorEq, Option.some.injEq,
  Nat.reduceLT, Nat.reduceLeDiff, Nat.reduceEqDiff, and_self, ite_self, decide_true, decide_false, eq_self])
local macro_rules | `(tactic| walk_at "ds") => `(tactic| first | rfl | decide | assumption | omega | exact Nat.le_of_ble_eq_true rfl)

/-! ### the law's own grids -/
def Wok (w : List Nat) : Prop := ∃ r, signsOf w = some r
theorem Wok.form {w : List Nat} (h : Wok w) : 32 ∉ w ∧ w.length ≤ 3 ∧ w ≠ [] := by
  obtain ⟨r, h⟩ := h
  unfold signsOf at h
  split at h
  · rename_i m hm
    have hk : ∃ k, w.take 1 = [k] ∧ (k = 65 ∨ k = 78) := by
      split at h
      · rename_i q
        unfold menu at q
        split at q
        · exact ⟨_, ‹_›, .inl rfl⟩
        · split at q
          · exact ⟨_, ‹_›, .inr rfl⟩
          · simp at q; omega
      · cases h
    obtain ⟨k, hk, hk2⟩ := hk
    match w, hk, hm with
    | [], hk, _ => cases hk
    | a :: t, hk, hm =>
      have ea : a = k := by simpa using hk
      rw [List.drop_succ_cons, List.drop_zero] at hm
      unfold manyOf at hm
      split at hm
      · split at hm
        · rename_i c hd
          unfold dig at hd
          simp at hd
          refine ⟨?_, by simp, by simp⟩
          simp only [List.mem_cons, List.not_mem_nil, or_false, not_or]
          omega
        · cases hm
      · split at hm
        · rename_i c d hd
          unfold dig at hd
          simp at hd
          refine ⟨?_, by simp, by simp⟩
          simp only [List.mem_cons, List.not_mem_nil, or_false, not_or]
          omega
        · cases hm
      · cases hm
  · cases h
theorem badAt_none : ∀ {ws : List (List Nat)} {i : Nat}, i + ws.length ≤ 5 → (∀ w ∈ ws, Wok w) → badAt i ws = none
  | [], _, _, _ => rfl
  | w :: ws, i, hl, h => by
    rw [List.length_cons] at hl
    unfold badAt
    have hn : ¬ (i = 5 ∨ signsOf w = none) := by
      rintro (e | e)
      · omega
      · obtain ⟨r, q⟩ := h w List.mem_cons_self
        rw [q] at e; cases e
    rw [if_neg hn]
    exact badAt_none (by omega) fun w m => h w (List.mem_cons_of_mem _ m)
/-- a text of words -/
def textOf (ws : List (List Nat)) : List Nat := TL.joinL [32] ws
theorem joinL_len : ∀ {ws : List (List Nat)}, (∀ w ∈ ws, w.length ≤ 3) → (TL.joinL [32] ws).length ≤ 4 * ws.length
  | [], _ => by simp [TL.joinL]
  | [w], h => by
    have := h w (by simp)
    show w.length ≤ 4 * 1
    omega
  | w :: v :: r, h => by
    have h1 := h w (by simp)
    have h2 := joinL_len (ws := v :: r) fun x m => h x (List.mem_cons_of_mem _ m)
    show (w ++ ([32] ++ TL.joinL [32] (v :: r))).length ≤ _
    rw [List.length_append, List.length_append, List.length_cons (a := w)]
    show w.length + (1 + _) ≤ _
    omega
theorem words_text {ws : List (List Nat)} (hn : ws ≠ []) (h : ∀ w ∈ ws, Wok w) : wordsOf (textOf ws) = ws := spl_join hn fun w m => (h w m).form.1
/-- the signs of words -/
def signsAll (ws : List (List Nat)) : List (List Nat) := ws.map fun w => (signsOf w).getD []
theorem signsAll_ok {ws : List (List Nat)} (h : ∀ w ∈ ws, Wok w) : ws.map signsOf = (signsAll ws).map some := by
  unfold signsAll
  rw [List.map_map]
  refine List.map_congr_left fun w m => ?_
  obtain ⟨r, e⟩ := h w m
  show signsOf w = some ((signsOf w).getD [])
  rw [e]; rfl
/-- words of a grid's text -/
structure WsOk (ws : List (List Nat)) : Prop where
  ne : ws ≠ []
  le : ws.length ≤ 5
  ok : ∀ w ∈ ws, Wok w
theorem WsOk.text {ws : List (List Nat)} (h : WsOk ws) : (textOf ws).length ≤ 20 := by
  have := joinL_len (ws := ws) fun w m => (h.ok w m).form.2.1
  have := h.le
  unfold textOf
  omega
theorem WsOk.grid {ws : List (List Nat)} (h : WsOk ws) : GOk (textOf ws) (signsAll ws) :=
  ⟨Nat.le_trans h.text (by decide), by rw [words_text h.ne h.ok]; exact badAt_none (by have := h.le; omega) h.ok, by rw [words_text h.ne h.ok]; exact signsAll_ok h.ok⟩
theorem signsAll_len (ws : List (List Nat)) : (signsAll ws).length = ws.length := List.length_map ..
/-- a word by its kind and its cut -/
def wordOf (kind cut : Nat) : List Nat := (if kind = 0 then 65 else 78) :: TL.numL cut
theorem wordOf_ok : ∀ kind cut : Nat, kind < 2 → 2 ≤ cut → cut ≤ (if kind = 0 then 24 else 10) → signsOf (wordOf kind cut) = some ((if kind = 0 then letters else figs).take cut) := by
  intro kind cut h1 h2 h3
  have all : ∀ k : Fin 2, ∀ c : Fin 25, 2 ≤ c.val → c.val ≤ (if k.val = 0 then 24 else 10) → signsOf (wordOf k.val c.val) = some ((if k.val = 0 then letters else figs).take c.val) := by decide +kernel
  exact all ⟨kind, h1⟩ ⟨cut, by split at h3 <;> omega⟩ h2 h3
@[irreducible] def spLGrid : PSp := fun ds z R _ => ∃ p most wide c, ds = [.adr p, .int most, .int wide] ∧ z = ⟨some p, c⟩ ∧ c ≤ 900000 ∧ 1 ≤ most ∧ most ≤ 5 ∧ 2 ≤ wide ∧
  ∀ ws c', WsOk ws → (ws.length : Int) ≤ most → (∀ a ∈ signsAll ws, (a.length : Int) ≤ wide) → c' ≤ c + 20 → R (.tup [.str (S (textOf ws)), .lst (strsD (signsAll ws))]) ⟨some p, c'⟩
theorem use_grid {p : Addr} {most wide c : Int} {R : D → Z → Prop} {E : PX} (hc : c ≤ 900000) (h1 : 1 ≤ most) (h2 : most ≤ 5) (h3 : 2 ≤ wide)
    (k : ∀ ws c', WsOk ws → (ws.length : Int) ≤ most → (∀ a ∈ signsAll ws, (a.length : Int) ≤ wide) → c' ≤ c + 20 → R (.tup [.str (S (textOf ws)), .lst (strsD (signsAll ws))]) ⟨some p, c'⟩) : spLGrid [.adr p, .int most, .int wide] ⟨some p, c⟩ R E := by
  unfold spLGrid
  exact ⟨p, most, wide, c, rfl, rfl, hc, h1, h2, h3, k⟩
theorem strsD_map (ws : List (List Nat)) : strsD ws = (ws.map S).map D.str := by unfold strsD; rw [List.map_map]; rfl
theorem sum_len {ws : List (List Nat)} (h : ∀ w ∈ ws, w.length ≤ 3) : ((ws.map S).map (·.length)).sum ≤ 3 * ws.length := by
  induction ws with
  | nil => exact Nat.le_refl _
  | cons w ws ih =>
    have h1 := h w List.mem_cons_self
    have h2 := ih fun x m => h x (List.mem_cons_of_mem _ m)
    rw [List.map_cons, List.map_cons, List.sum_cons, List.length_cons, S_len]
    omega
theorem menu_at {top a b i : Int} (h0 : 0 ≤ i) (h1 : i < 5) (ht : 4 ≤ top) (ha : 2 ≤ a) (ha2 : a ≤ top) (hb : 2 ≤ b) (hb2 : b ≤ top) : ∃ m : Int, atI [D.int 2, D.int 3, D.int a, D.int 4, D.int b] i = some (.int m) ∧ 2 ≤ m ∧ m ≤ top := by
  rcases (show i = 0 ∨ i = 1 ∨ i = 2 ∨ i = 3 ∨ i = 4 by omega) with rfl | rfl | rfl | rfl | rfl
  · exact ⟨2, atI_nat (j := 0) rfl, by omega, by omega⟩
  · exact ⟨3, atI_nat (j := 1) rfl, by omega, by omega⟩
  · exact ⟨a, atI_nat (j := 2) rfl, by omega, by omega⟩
  · exact ⟨4, atI_nat (j := 3) rfl, by omega, by omega⟩
  · exact ⟨b, atI_nat (j := 4) rfl, by omega, by omega⟩
theorem word_str {c kind n : Nat} (hc : c = if kind = 0 then 65 else 78) : (⟨#[c]⟩ : Str) ++ Str.ofString (toString ((n : Nat) : Int)) = S (wordOf kind n) := by
  rw [num_S, show (⟨#[c]⟩ : Str) = S [c] from rfl, S_cat, hc]
  rfl
theorem numL_len : ∀ n : Nat, n < 100 → (TL.numL n).length ≤ 2 := by
  have all : ∀ n : Fin 100, (TL.numL n.val).length ≤ 2 := by decide +kernel
  exact fun n h => all ⟨n, h⟩
section
variable {P : Program} {w : World} {K : PySem.W.Frag} {mg : Str → Option Value} {base : Heap} {f : Addr} {fd : FuncData}
abbrev s_grid : Stmt := (top 24)
abbrev grid.N : List Str := ["_law_pot", "_law_most", "_law_wide", "_law_words", "_law_signs_here", "_law_k", "_law_kind", "_law_menu", "_law_cut"]
abbrev grid.ps : List Str := ["_law_pot", "_law_most", "_law_wide"]
theorem sc_grid : FnScope grid.N grid.ps (defScope s_grid) := ⟨rfl, rfl, rfl, by decide +kernel, rfl, by decide +kernel, by decide +kernel⟩
theorem ok_grid (F : Fun K "_law_grid" "_law_grid" s_grid f fd) (T : T14 mg) (C_draw : Callee P w K mg base CX0 1 "_law_draw" s_draw draw.ps (lift K spDraw)) : FnG P w K mg base CX0 2 f fd grid.ps (lift K spLGrid) := by
  refine dbody F sc_grid (fun ds z R RX h => ?_) fun cdv A outer s H E hr hg => ⟨_, (dss_cons (ds_pairOO (i := 3) (j := 4) rfl sc_grid.nd rfl rfl (by decide) rfl rfl (dn_lst das_nil) (dn_lst das_nil) (by rfl))
      (dss_cons (ds_for PassesOwn.never rfl (di_range1 rfl T.b_range (da_cons (dp_of (de_op od_add (dp_of de_int) (dp_of (C_draw.d0 rfl hr hg (atAll pass0) (das_cons (de_var 0) (das_cons (de_var 1) das_nil)))))) da_nil)) (dg_name (i := 5) sc_grid.nd rfl (Or.inl rfl)) (dss_cons (ds_set (i := 6) sc_grid.nd rfl (Or.inl rfl) (C_draw.d0 rfl hr hg (atAll pass0) (das_cons (de_var 0) (das_cons de_int das_nil))))
      (dss_cons (ds_set (i := 7) sc_grid.nd rfl (Or.inl rfl) (de_new (dn_lst (das_cons de_int (das_cons de_int (das_cons (de_ix od_ix (dp_of (de_new (dn_lst (das_cons de_int (das_cons de_int das_nil))))) (dp_var 6) (fun _ _ => rfl)) (das_cons de_int (das_cons (de_op od_add (dp_of de_int) (dp_of (C_draw.d0 rfl hr hg (atAll pass0) (das_cons (de_var 0) (das_cons (de_ix od_ix (dp_of (de_new (dn_lst (das_cons de_int (das_cons de_int das_nil))))) (dp_var 6) (fun _ _ => rfl)) das_nil))))) das_nil))))))))
      (dss_cons (ds_set (i := 8) sc_grid.nd rfl (Or.inl rfl) (de_fn (cd_min rfl) (by rfl) T.b_min (by decide +kernel) (da_cons (dp_of (de_ix od_ix (dp_var 7) (dp_of (C_draw.d0 rfl hr hg (atAll pass0) (das_cons (de_var 0) (das_cons de_int das_nil)))) (fun _ _ => rfl))) (da_cons (dp_var 2) da_nil))))
      (dss_cons (ds_append (i := 3) rfl (de_op od_add (dp_of (de_ix od_ix (dp_of de_str) (dp_var 6) (fun _ _ => rfl))) (dp_of (de_ty cd_str (by rfl) T.b_str (by decide +kernel) (da_cons (dp_var 8) da_nil)))))
      (dss_one (ds_append (i := 4) rfl (de_slice sd_sl (dp_of (de_ix od_ix (dp_of (de_new (dn_lst (das_cons de_str (das_cons de_str das_nil))))) (dp_var 6) (fun _ _ => rfl))) do_none (do_some (de_var 8))))))))))
      (dss_one (ds_ret (de_tup (das_cons (de_mt PySem.F.slot_str_join PySem.F.type_str_join md_join (dp_of de_str) (da_cons (dp_var 3) da_nil)) (das_cons (de_var 4) das_nil))))))), fun ds z R RX h => ?_⟩
  · unfold spLGrid at h
    obtain ⟨p, most, wide, c, rfl, _⟩ := h
    rfl
  · unfold spLGrid at h
    obtain ⟨p, most, wide, c, rfl, rfl, hc, hm, hm5, hw, k⟩ := h
    walk_at "d"
    refine use_draw (by omega) (by omega) (Int.lt_of_le_of_lt hm5 (by decide)) fun d hd0 hd1 => ?_
    walk_at "d"
    refine ⟨by omega, by omega, ?_⟩
    refine forD_inv (fun i ρ z' => ∃ ws c' a5 a6 a7 a8, ρ = [.val (.adr p), .val (.int most), .val (.int wide), .own (strsD ws), .own (strsD (signsAll ws)), a5, a6, a7, a8] ∧ z' = ⟨some p, c'⟩ ∧ ws.length = i ∧ (∀ w ∈ ws, Wok w) ∧ (∀ a ∈ signsAll ws, (a.length : Int) ≤ wide) ∧ c' ≤ c + 1 + 3 * i)
      ⟨[], c + 1, .any, .any, .any, .any, rfl, rfl, rfl, nofun, nofun, by omega⟩ ?_ ?_
    · rintro i d0 ρ z' hdi ⟨ws, c', a5, a6, a7, a8, rfl, rfl, hl, hok, hwd, hc'⟩
      have hi : i < 5 := by
        have := lt_of_get hdi
        unfold rngD at this
        rw [List.length_map, List.length_range] at this
        omega
      walk_at "d"
      refine use_draw (by omega) (by decide) (by decide) fun kd hk0 hk1 => ?_
      rcases (show kd = 0 ∨ kd = 1 by omega) with rfl | rfl
      · walk_at "d"
        refine use_draw (by omega) (by decide) (by decide) fun d2 h20 h21 => ?_
        walk_at "d"
        refine use_draw (by omega) (by decide) (by decide) fun d3 h30 h31 => ?_
        walk_at "d"
        obtain ⟨m, hm, hm1, hm2⟩ := menu_at (top := 24) (a := 24) (b := 2 + d2) h30 h31 (by decide) (by decide) (by decide) (by omega) (by omega)
        refine ⟨_, hm, ?_⟩
        walk_at "d"
        obtain ⟨n, hn, hn1, hn2, hn3⟩ : ∃ n : Nat, (if wide < m then wide else m) = (n : Int) ∧ 2 ≤ n ∧ n ≤ 24 ∧ (n : Int) ≤ wide := ⟨(if wide < m then wide else m).toNat, by split <;> omega, by split <;> omega, by split <;> omega, by split <;> omega⟩
        rw [hn]
        walk_at "d"
        have hwo := wordOf_ok 0 n (by decide) hn1 hn2
        have es : signsAll (ws ++ [wordOf 0 n]) = signsAll ws ++ [letters.take n] := by unfold signsAll; rw [List.map_append, List.map_singleton, hwo]; rfl
        refine ⟨by decide, 65, by decide, log_small (k := 100) (by omega) (by decide) (by decide), ?_⟩
        rw [show (⟨#[65]⟩ : Str) ++ Str.ofString (toString ((n : Nat) : Int)) = S (wordOf 0 n) from word_str rfl, strsD_snoc, letters_str, cut_to, strsD_snoc, ← es]
        refine ⟨?_, ?_, by decide, ?_, ws ++ [wordOf 0 n], _, _, _, _, _, rfl, rfl, ?_, ?_, ?_, ?_⟩
        · rw [num_S, S_len]
          have := numL_len n (by omega)
          show 1 + _ ≤ sizeLine
          exact Nat.le_trans (Nat.add_le_add_left this 1) (by decide)
        · rw [strsD_len, hl]; exact Nat.lt_trans hi (by decide)
        · rw [strsD_len, signsAll_len, hl]; exact Nat.lt_trans hi (by decide)
        · rw [List.length_append, hl]; rfl
        · intro x hx
          rcases List.mem_append.mp hx with hx | hx
          · exact hok x hx
          · rw [List.mem_singleton.mp hx]; exact ⟨_, hwo⟩
        · intro x hx
          rw [es] at hx
          rcases List.mem_append.mp hx with hx | hx
          · exact hwd x hx
          · rw [List.mem_singleton.mp hx, List.length_take]; omega
        · omega
      · walk_at "d"
        refine use_draw (by omega) (by decide) (by decide) fun d2 h20 h21 => ?_
        walk_at "d"
        refine use_draw (by omega) (by decide) (by decide) fun d3 h30 h31 => ?_
        walk_at "d"
        obtain ⟨m, hm, hm1, hm2⟩ := menu_at (top := 10) (a := 10) (b := 2 + d2) h30 h31 (by decide) (by decide) (by decide) (by omega) (by omega)
        refine ⟨_, hm, ?_⟩
        walk_at "d"
        obtain ⟨n, hn, hn1, hn2, hn3⟩ : ∃ n : Nat, (if wide < m then wide else m) = (n : Int) ∧ 2 ≤ n ∧ n ≤ 10 ∧ (n : Int) ≤ wide := ⟨(if wide < m then wide else m).toNat, by split <;> omega, by split <;> omega, by split <;> omega, by split <;> omega⟩
        rw [hn]
        walk_at "d"
        have hwo := wordOf_ok 1 n (by decide) hn1 hn2
        have es : signsAll (ws ++ [wordOf 1 n]) = signsAll ws ++ [figs.take n] := by unfold signsAll; rw [List.map_append, List.map_singleton, hwo]; rfl
        refine ⟨by decide, 78, by decide, log_small (k := 100) (by omega) (by decide) (by decide), ?_⟩
        rw [show (⟨#[78]⟩ : Str) ++ Str.ofString (toString ((n : Nat) : Int)) = S (wordOf 1 n) from word_str rfl, strsD_snoc, figs_str, cut_to, strsD_snoc, ← es]
        refine ⟨?_, ?_, by decide, ?_, ws ++ [wordOf 1 n], _, _, _, _, _, rfl, rfl, ?_, ?_, ?_, ?_⟩
        · rw [num_S, S_len]
          have := numL_len n (by omega)
          show 1 + _ ≤ sizeLine
          exact Nat.le_trans (Nat.add_le_add_left this 1) (by decide)
        · rw [strsD_len, hl]; exact Nat.lt_trans hi (by decide)
        · rw [strsD_len, signsAll_len, hl]; exact Nat.lt_trans hi (by decide)
        · rw [List.length_append, hl]; rfl
        · intro x hx
          rcases List.mem_append.mp hx with hx | hx
          · exact hok x hx
          · rw [List.mem_singleton.mp hx]; exact ⟨_, hwo⟩
        · intro x hx
          rw [es] at hx
          rcases List.mem_append.mp hx with hx | hx
          · exact hwd x hx
          · rw [List.mem_singleton.mp hx, List.length_take]; omega
        · omega
    · rintro ρ z' ⟨ws, c', a5, a6, a7, a8, rfl, rfl, hl, hok, hwd, hc'⟩
      unfold rngD at hl hc'
      rw [List.length_map, List.length_range] at hl hc'
      have W : WsOk ws := ⟨by intro e; rw [e, List.length_nil] at hl; omega, by omega, hok⟩
      walk_at "d"
      have sl := sum_len fun w m => (hok w m).form.2.1
      refine ⟨ws.map S, strsD_map ws, ?_, ?_⟩
      · rw [List.length_map, show (Str.ofString " ").length = 1 from by decide]
        omega
      · rw [show Str.ofString " " = S [32] by decide +kernel, join_S]
        exact k ws c' W (by omega) hwd (by omega)
end

theorem kb_Grid_init_0_text {K : PySem.W.Frag} {f : Addr} {fd : FuncData} (F : Fun K "__init__" "Grid.__init__" s_Grid_init f fd) : KwB K fd Grid_init.ps 1 ["text"] (fun us ws => match us, ws with | [u0], [w0] => [u0, w0] | _, _ => []) (fun us ws => match us, ws with | [u0], [w0] => [u0, w0] | _, _ => []) := by
  obtain ⟨oc, od, kV, doc, pm, an, cdv, ct, osl, rfl, lk, hcd⟩ := F.ex
  refine ⟨fun s us ws _ h1 h2 => ?_, fun vs zs us ws h1 h2 r1 r2 => ?_⟩
  · match us, ws, h1, h2 with
    | [u0], [w0], _, _ => exact .of_eq rfl
  · match vs, zs, us, ws, h1, h2, r1, r2 with
    | [v0], [z0], [u0], [w0], _, _, .cons r0 (.nil), .cons q0 (.nil) => exact .cons r0 (.cons q0 (.nil))
theorem kd_Grid_init_0_text : KwM 0 (List.length ["text"]) (fun us ws => match us, ws with | [u0], [w0] => [u0, w0] | _, _ => []) (fun us ws => match us, ws with | [], [w0] => [w0] | _, _ => []) := fun x vs zs h1 h2 => by
  match vs, zs, h1, h2 with
  | [], [z0], _, _ =>
    refine ⟨[z0], rfl, fun K N H ds es r q => ?_⟩
    match ds, es, Reps.length r, Reps.length q with
    | [], [e0], _, _ =>
      simp only [Reps, List.cons.injEq] at r q
      obtain ⟨_, _, ⟨eq0, tq0⟩, q0, q⟩ := q
      subst eq0 tq0
      exact (Reps.cons q0 Reps.nil)
theorem kb_Grid_alphabet_0_level {K : PySem.W.Frag} {f : Addr} {fd : FuncData} (F : Fun K "alphabet" "Grid.alphabet" s_Grid_alphabet f fd) : KwB K fd Grid_alphabet.ps 1 ["level"] (fun us ws => match us, ws with | [u0], [w0] => [u0, w0] | _, _ => []) (fun us ws => match us, ws with | [u0], [w0] => [u0, w0] | _, _ => []) := by
  obtain ⟨oc, od, kV, doc, pm, an, cdv, ct, osl, rfl, lk, hcd⟩ := F.ex
  refine ⟨fun s us ws _ h1 h2 => ?_, fun vs zs us ws h1 h2 r1 r2 => ?_⟩
  · match us, ws, h1, h2 with
    | [u0], [w0], _, _ => exact .of_eq rfl
  · match vs, zs, us, ws, h1, h2, r1, r2 with
    | [v0], [z0], [u0], [w0], _, _, .cons r0 (.nil), .cons q0 (.nil) => exact .cons r0 (.cons q0 (.nil))
theorem kd_Grid_alphabet_0_level : KwD 1 (List.length ["level"]) (fun us ws => match us, ws with | [u0], [w0] => [u0, w0] | _, _ => []) (fun us ws => match us, ws with | [u0], [w0] => [u0, w0] | _, _ => []) := fun K N H ds es vs zs h1 h2 r q => by
  match ds, es, vs, zs, h1, h2, Reps.length r, Reps.length q with
  | [d0], [e0], [v0], [z0], _, _, _, _ =>
      simp only [Reps, List.cons.injEq] at r q
      obtain ⟨_, _, ⟨er0, tr0⟩, r0, r⟩ := r
      subst er0 tr0
      obtain ⟨_, _, ⟨eq0, tq0⟩, q0, q⟩ := q
      subst eq0 tq0
      exact (Reps.cons r0 (Reps.cons q0 Reps.nil))
/-- the class Grid as its callers see it -/
structure GridFn (P : Program) (w : World) (K : PySem.W.Frag) (mg : Str → Option Value) (base : Heap) (CG CB : Addr) : Prop where
  O : Own K CG ["text", "alphabets"]
  G : mg "Grid" = some (.ref CG)
  N : NoNe K CG
  R : Refl K CG
  W : Fmt K CG
  I : IsC K CG
  new : Maker P w K mg base (L2.CX P w) 3 "Grid" CG (dR s_Grid_init "__init__" "Grid.__init__" K) Grid_init.ps (liftI K CG (spGrid K CB))
  eq : Method P w K mg base CX0 1 CG "__eq__" (dR s_Grid_eq "__eq__" "Grid.__eq__" K) Grid_eq.ps (lift K (spGEq K CG))
  len : Method P w K mg base CX0 1 CG "__len__" (dR s_Grid_len "__len__" "Grid.__len__" K) Grid_len.ps (lift K (spGLen CG))
  str : Method P w K mg base CX0 1 CG "__str__" (dR s_Grid_str "__str__" "Grid.__str__" K) Grid_str.ps (lift K (spGStr CG))
  repr : Method P w K mg base CX0 1 CG "__repr__" (dR s_Grid_repr "__repr__" "Grid.__repr__" K) Grid_repr.ps (lift K (spGRepr CG))
  alphabet : Method P w K mg base CX0 1 CG "alphabet" (dR s_Grid_alphabet "alphabet" "Grid.alphabet" K) Grid_alphabet.ps (lift K (spAlphabet CG))
  cut : Method P w K mg base CX0 2 CG "cut" (dR s_Grid_cut "cut" "Grid.cut" K) Grid_cut.ps (lift K (spCut CG))
  side : Method P w K mg base CX0 1 CG "side" (dR s_Grid_side "side" "Grid.side" K) Grid_side.ps (lift K (spSide CG))
theorem use_Grid {K : PySem.W.Frag} {CB : Addr} {l : List Nat} {al : List (List Nat)} {z : Z} {R : List Str → List D → Z → Prop} {E : PX} (g : GOk l al) (k : R ["text", "alphabets"] [.str (S l), .tup (strsD al)] z) : spGrid K CB [.str (S l)] z R E := by
  unfold spGrid
  refine .inl ⟨l, rfl, g.len, fun am h => ?_, fun i h => ?_⟩
  · rw [← g.same h]; exact k
  · rw [g.bad] at h; cases h
theorem use_GEq {K : PySem.W.Frag} {CG : Addr} {l l2 : List Nat} {al al2 : List (List Nat)} {z : Z} {R : D → Z → Prop} {E : PX} (hl : l.length ≤ 100000) (k : R (.bl (decide (l = l2))) z) : spGEq K CG [gridD CG l al, gridD CG l2 al2] z R E := by
  unfold spGEq
  exact ⟨l, al, _, rfl, hl, .inl ⟨l2, al2, rfl, k⟩⟩
theorem use_GNe {K : PySem.W.Frag} {CG : Addr} {l : List Nat} {al : List (List Nat)} {d : D} {t : Value} {z : Z} {R : D → Z → Prop} {E : PX} (hl : l.length ≤ 100000) (ht : tyD K d t) (hk : PySem.W.kitOne K t (.ref CG) = some false) (k : R (.bl false) z) : spGEq K CG [gridD CG l al, d] z R E := by
  unfold spGEq
  exact ⟨l, al, _, rfl, hl, .inr ⟨t, ht, hk, k⟩⟩
section
variable {K : PySem.W.Frag} {CG CB : Addr} {l : List Nat} {al : List (List Nat)} {z : Z} {R : D → Z → Prop} {E : PX}
theorem use_GLen (k : R (.int al.length) z) : spGLen CG [gridD CG l al] z R E := by
  unfold spGLen
  exact ⟨l, al, rfl, k⟩
theorem use_GStr (k : R (.str (S l)) z) : spGStr CG [gridD CG l al] z R E := by
  unfold spGStr
  exact ⟨l, al, rfl, k⟩
theorem use_GRepr (hl : l.length ≤ 100000) (k : R (.str (S (greprL l))) z) : spGRepr CG [gridD CG l al] z R E := by
  unfold spGRepr
  exact ⟨l, al, rfl, hl, k⟩
theorem use_alphabet {i : Int} (n : Nat) {a : List Nat} (hi : i = (n : Int) + 1) (ha : al[n]? = some a) (k : R (.str (S a)) z) : spAlphabet CG [gridD CG l al, .int i] z R E := by
  subst hi
  unfold spAlphabet
  exact ⟨l, al, n, a, rfl, ha, k⟩
theorem use_cut {i : Int} (n : Nat) {a : List Nat} (hi : i = (n : Int) + 1) (ha : al[n]? = some a) (hl : a.length ≤ 100) (k : R (.int a.length) z) : spCut CG [gridD CG l al, .int i] z R E := by
  subst hi
  unfold spCut
  exact ⟨l, al, n, a, rfl, ha, hl, k⟩
theorem use_side {i : Int} (n : Nat) (hi : i = (n : Int)) (g : GOk l al) (h : n ≤ al.length) (k : R (.int (prodL (al.drop n))) z) : spSide CG [gridD CG l al, .int i] z R E := by
  subst hi
  unfold spSide
  exact ⟨l, al, n, rfl, g, h, k⟩
theorem meth_G {m : Str} (h : m ∉ (["text", "alphabets"] : List Str)) : ∃ ns ds, gridD CG l al = .ins CG ns ds ∧ m ∉ ns := ⟨_, _, rfl, h⟩
end

end K14

set_option Elab.async false
set_option linter.all false
set_option maxRecDepth 100000
set_option maxHeartbeats 2000000
namespace K14
open PySem L2 Lay RZ SkE SX
/-! ### reading steps over trees -/
local macro_rules | `(tactic| walk_at "d") => `(tactic| try simp -implicitDefEqProofs only [cxK, noxK, wishK, startD, startI, List.map_cons, List.map_nil, List.length_cons, List.length_nil, List.length_singleton, Nat.zero_add, Nat.reduceAdd, Nat.reduceSub, Nat.add_one_sub_one, List.replicate_succ, List.replicate_zero, List.cons_append, List.nil_append, List.append_nil,
  ap_dVar, ap_dPeek, ap_dC, ap_dOp, ap_dTest, ap_dChain, ap_dTru, ap_dAndB, ap_dOrB, ap_dNotB, ap_dAnd, ap_dOr, ap_dNot, ap_dNil, ap_dCons, ap_dTup, ap_dLst, ap_dLet, ap_dSized, ap_dUn, ap_dNoPart, ap_dPart, ap_dSl, ap_dFn, ap_dMt, ap_dMt0, ap_dFs, ap_dFmt, ap_dJoin, ap_dNext, ap_dSeq, ap_dDrop, ap_dRet, ap_dIf, ap_dAsg, ap_dSet, ap_dOwn, ap_dAppend, ap_dAug, ap_dFldS, ap_dPar, ap_dPar3, ap_dIt, ap_dItA, ap_dFor, ap_dLc, ap_dYes, ap_dCall, ap_dCall0, ap_dCallKw, ap_dCallKw0, ap_dMeth, ap_dMeth0, ap_dMethKw, ap_dOne, ap_dFmtO, ap_dEqO, ap_dReqO, ap_dMake, ap_dMake0, ap_dMakeKw, ap_dMakeKw0, ap_dRaise, ap_dPair, ap_dCat, ex_obj1, ex_obj2, ex_ins1, ex_ins2, ex_str, ex_own, ex_val, ap_ix0, ap_ix1, ap_ix2, e_lenOk, e_isStr, le_sz0, le_sz1, le_sz2, le_sz3, le_sz4, le_sz5, le_sz6, le_sz7, le_sz8, ap_dIfE, ap_isD, ap_in1, ap_in2, ap_in3, ap_isi, ap_sum, ap_any, ap_dJs0, ap_dJs1, ap_dgName, ap_dgTup, ap_dgCons, ap_dgNil, ap_dTry, ap_dXf, e_tru1, e_tru2, e_tru3, e_tru4, e_tru5, e_tru6, e_tru7, e_fmtD1, e_fmtD2, e_iterD1, e_iterD2, e_iterD3, e_iterD4, e_addD1, e_addD2, e_addD3, e_addD4, e_subD1, e_mulD1, e_mulD2, e_mulD3, e_fdivD1, e_modD1, e_powD1, e_cmpD1, e_cmpD2, e_eqD1, e_eqD2, e_eqD3, e_eqD4, e_eqD5, e_eqD6, e_eqD7, e_eqD8, e_eqD9, e_eqD10, e_eqD11, e_eqD12, e_eqD13, e_eqD14, e_isNonD1, e_negD1, e_ixD1, e_ixD2, e_ixD3, e_ixD4, e_slD1, e_slD2, e_slD3, e_slD4, e_lenD1, e_lenD2, e_lenD3, e_lenD4, e_absD1, e_mmD1, e_intD1, e_intD2, e_intD3, e_strD1, e_strD2, e_tupleD1, e_tupleD2, e_tupleD3, e_listD1, e_listD2, e_listD3, e_splitD1, e_joinD1, e_joinD2, e_str1D1, e_iaddD1, e_iaddD2, e_imulD1, e_ifdivD1, e_enumD1, e_enumD2, e_zipF1, e_zipF2, e_rng11, e_rng21, e_rng31, e_fldD1, e_dixD1, e_dixD2, e_revSD1, e_catD1, ap_dTryK, ap_dSetX, kx_any, kx_val, kx_own, kx_exc, e_xfD, e_nonX, e_rngW, ap_dExtend, e_extD, ap_best, ap_dItR, e_revF1, e_revF2, e_revF3, ap_dTryN, ap_dRaiseU, ap_dSplitN, e_splitN, ap_dSetIx, e_setD, e_zipG, ap_dTupO, e_caseD, e_rngS, e_enumG, ap_dInO, ap_dPopSet, e_popD, ap_dAppPop, ap_dPairON, ap_dListN, e_listN1, e_listN2, e_listN3, e_listN4, ltD, leD, gtD, geD, minD, maxD, wipeD,
  List.set_cons_zero, List.set_cons_succ, List.getElem?_cons_zero, List.getElem?_cons_succ, List.length_set, if_true, if_false, Bool.false_eq_true, reduceIte, id, Bool.not_true, Bool.not_false, true_and, and_true, List.zip_cons_cons, List.zip_nil_right, List.zip_nil_left, reduceCtorEq, Option.some.injEq,
  Nat.reduceLT, Nat.reduceLeDiff, Nat.reduceEqDiff, and_self, ite_self, decide_true, decide_false, eq_self])
local macro_rules | `(tactic| walk_at "ds") => `(tactic| first | rfl | decide | assumption | omega | exact Nat.le_of_ble_eq_true rfl)

theorem kit_self' {K : PySem.W.Frag} {n : String} : PySem.W.kitOne K (.type n) (.type n) = some true := by
  unfold PySem.W.kitOne
  rw [if_pos (by simp)]
section
variable {P : Program} {w : World} {K : PySem.W.Frag} {mg : Str → Option Value} {base : Heap} {f : Addr} {fd : FuncData} {CG CB CE CS CQ : Addr}
abbrev s_BadSquare_init : Stmt := (inClass (top 4) 0)
abbrev BadSquare_init.N : List Str := ["self", "level"]
abbrev BadSquare_init.ps : List Str := ["self", "level"]
theorem sc_BadSquare_init : FnScope BadSquare_init.N BadSquare_init.ps (defScope s_BadSquare_init) := ⟨rfl, rfl, rfl, by decide +kernel, rfl, by decide +kernel, by decide +kernel⟩
theorem ok_BadSquare_init (F : Fun K "__init__" "BadSquare.__init__" s_BadSquare_init f fd) (O : OexC K CQ) (hno : PySem.W.findIn K (.ref CQ) "level" = some none) (B_GridError : GBase K mg "GridError" CE) :
    FnOk P w K mg base CX0 1 f fd BadSquare_init.ps (spX CQ ["level"]) := by
  refine F.ok sc_BadSquare_init (fun vs H Q E h => ?_) (fun cdv A outer s H vs Q E hr h => ?_)
  · obtain ⟨a, ws, rfl, hl, _⟩ := h
    match ws, hl with
    | [_], _ => rfl
  · obtain ⟨a, ws, rfl, hl, ha, k⟩ := h
    match ws, hl with
    | [v], _ =>
      refine ⟨_, (pss_cons (ps_expr (pe_ginit rfl B_GridError.mgx B_GridError.sg B_GridError.rd B_GridError.vV (pa_cons (pv 0) (pa_cons pe_str pa_nil))))
      (pss_one (ps_ost (pv 0) (pv 1) rfl))), ?_⟩
      refine ⟨_, rfl, a, CQ, _, rfl, by decide, O, ha, ?_⟩
      refine ⟨_, rfl, _, rfl, a, CQ, rfl, O, hno, .inl ⟨ha, fun dx hd n => ?_⟩⟩
      exact k dx hd n
/-- no whole number from nought to most -/
def BadLev (K : PySem.W.Frag) (most : Int) (d : D) : Prop := (∃ i, d = .int i ∧ ¬ (0 ≤ i ∧ i ≤ most)) ∨ (∃ b, d = .bl b) ∨ ∃ t, tyD K d t ∧ PySem.W.kitOne K t (.type "int") = some false
@[irreducible] def spHold (K : PySem.W.Frag) (CQ : Addr) : PSp := fun ds z R RX => ∃ d most, ds = [d, .int most] ∧ ((∃ i, d = .int i ∧ 0 ≤ i ∧ i ≤ most ∧ R .non z) ∨ BadLev K most d ∧ RX CQ ["level"] [d] z)
abbrev s_hold_level : Stmt := (top 13)
abbrev hold_level.N : List Str := ["thing", "most"]
abbrev hold_level.ps : List Str := ["thing", "most"]
theorem sc_hold_level : FnScope hold_level.N hold_level.ps (defScope s_hold_level) := ⟨rfl, rfl, rfl, by decide +kernel, rfl, by decide +kernel, by decide +kernel⟩
theorem ok_hold (F : Fun K "hold_level" "hold_level" s_hold_level f fd) (X_BadSquare : ExcOk P w K mg base "BadSquare" CQ ["level"] BadSquare_init.ps) (T : T14 mg) : FnG P w K mg base (L2.CX P w) 3 f fd hold_level.ps (lift K (spHold K CQ)) := by
  refine dbodyX F sc_hold_level (fun ds z R RX h => ?_) fun cdv A outer s H E hr hg => ⟨_, (dss_one (ds_if (DWt.pt (dw_or (dt_not (dt_truth (dp_of (de_fn (cd_isiK (K := K) rfl) (by rfl) T.b_isinstance (by decide +kernel) (da_cons (dp_var 0) (da_cons (dp_of (de_c (pe_bltn (v := .ty "int") (u := .type "int") (by rfl) T.b_int (by decide +kernel) rfl) (fun _ _ => Rep.t))) da_nil)))))) (dw_or (dt_truth (dp_of (de_fn (cd_isiK (K := K) rfl) (by rfl) T.b_isinstance (by decide +kernel) (da_cons (dp_var 0) (da_cons (dp_of (de_c (pe_bltn (v := .ty "bool") (u := .type "bool") (by rfl) T.b_bool (by decide +kernel) rfl) (fun _ _ => Rep.t))) da_nil))))) (dw_or1 (dt_not (dt_chain od_le od_le (dp_of de_int) (dp_var 0) (dp_var 1))))))) (dss_one (X_BadSquare.dRaise rfl rfl hr (takes_of rfl rfl rfl rfl) (das_cons (de_var 0) das_nil))) dss_nil)), fun ds z R RX h => ?_⟩
  · unfold spHold at h
    obtain ⟨d, most, rfl, _⟩ := h
    rfl
  · unfold spHold at h
    obtain ⟨d, most, rfl, h⟩ := h
    rcases h with ⟨i, rfl, h0, h1, k⟩ | ⟨⟨i, rfl, hi⟩ | ⟨b, rfl⟩ | ⟨t, ht, hk⟩, k⟩
    · walk_at "d"
      refine ⟨.type "int", .type "int", true, rfl, rfl, kit_self', ?_⟩
      walk_at "d"
      refine ⟨.type "int", .type "bool", false, rfl, rfl, rfl, ?_⟩
      walk_at "d"
      rw [decide_eq_true h0, decide_eq_true h1]
      exact k
    · walk_at "d"
      refine ⟨.type "int", .type "int", true, rfl, rfl, kit_self', ?_⟩
      walk_at "d"
      refine ⟨.type "int", .type "bool", false, rfl, rfl, rfl, ?_⟩
      walk_at "d"
      by_cases h0 : 0 ≤ i
      · rw [decide_eq_true h0, decide_eq_false (fun h1 => hi ⟨h0, h1⟩)]
        exact k
      · rw [decide_eq_false h0]
        exact k
    · walk_at "d"
      refine ⟨.type "bool", .type "int", true, rfl, rfl, rfl, ?_⟩
      walk_at "d"
      refine ⟨.type "bool", .type "bool", true, rfl, rfl, kit_self', ?_⟩
      walk_at "d"
      exact k
    · walk_at "d"
      refine ⟨t, .type "int", false, ht, rfl, hk, ?_⟩
      walk_at "d"
      exact k
/-- the wheels: behind i levels the signs, what is left of east and north -/
def wheel (al : List (List Nat)) (lev : Nat) (e n : Int) : Nat → List Nat × Int × Int
  | 0 => ([], e, n)
  | i + 1 =>
    let st := wheel al lev e n i
    let a := (al[lev - i - 1]?).getD []
    (((a[(st.2.1 % a.length).toNat]?).getD 0) :: ((a[(st.2.2 % a.length).toNat]?).getD 0) :: st.1, st.2.1 / a.length, st.2.2 / a.length)
def signsQ (al : List (List Nat)) (lev : Nat) (e n : Int) : List Nat := (wheel al lev e n lev).1
def sheetQ (al : List (List Nat)) (lev : Nat) (e n : Int) : Str := Str.empty ++ Str.ofString (toString (wheel al lev e n lev).2.1) ++ Str.ofString "/" ++ Str.ofString (toString (wheel al lev e n lev).2.2)
theorem wheel_bd (al : List (List Nat)) (lev : Nat) (e n : Int) : ∀ i, (wheel al lev e n i).2.1.natAbs ≤ e.natAbs ∧ (wheel al lev e n i).2.2.natAbs ≤ n.natAbs ∧ (wheel al lev e n i).1.length = 2 * i
  | 0 => ⟨Nat.le_refl _, Nat.le_refl _, rfl⟩
  | i + 1 => by
    obtain ⟨h1, h2, h3⟩ := wheel_bd al lev e n i
    refine ⟨Nat.le_trans (Int.natAbs_ediv_le_natAbs _ _) h1, Nat.le_trans (Int.natAbs_ediv_le_natAbs _ _) h2, ?_⟩
    show (_ :: _ :: _ : List Nat).length = _
    rw [List.length_cons, List.length_cons, h3]
    omega
theorem at_mod {a : List Nat} (h : 0 < a.length) (x : Int) : atI a (x % a.length) = some ((a[(x % a.length).toNat]?).getD 0) := by
  have h0 := Int.emod_nonneg x (show (a.length : Int) ≠ 0 by omega)
  have h1 := Int.emod_lt_of_pos x (show (0 : Int) < (a.length : Int) by omega)
  obtain ⟨j, e⟩ : ∃ j : Nat, x % a.length = (j : Int) := ⟨_, (Int.toNat_of_nonneg h0).symm⟩
  rw [e, Int.toNat_natCast]
  have hj : j < a.length := by omega
  refine atI_nat ?_
  rw [List.getElem?_eq_getElem hj]
  rfl
theorem cat_len (a b : Str) : (a ++ b).length = a.length + b.length := by
  show (a.cps ++ b.cps).size = _
  rw [Array.size_append]; rfl
abbrev sqNs : List Str := ["grid", "level", "east", "north", "signs", "sheet"]
def sqDs (CG : Addr) (l : List Nat) (al : List (List Nat)) (lev : Nat) (e n : Int) : List D := [gridD CG l al, .int lev, .int e, .int n, .str (S (signsQ al lev e n)), .str (sheetQ al lev e n)]
/-- Square(grid, level, east, north) -/
@[irreducible] def spSquare (K : PySem.W.Frag) (CG CQ : Addr) : ISp := fun ds z R RX => ∃ l al d e n, ds = [gridD CG l al, d, .int e, .int n] ∧ GOk l al ∧ e.natAbs < 2 ^ 200 ∧ n.natAbs < 2 ^ 200 ∧
  ((∃ lev : Nat, d = .int lev ∧ lev ≤ al.length ∧ R sqNs (sqDs CG l al lev e n) z) ∨ BadLev K al.length d ∧ RX CQ ["level"] [d] z)
theorem hold_in {CQ : Addr} {i most : Int} {z : Z} {R : D → Z → Prop} {E : PX} (h0 : 0 ≤ i) (h1 : i ≤ most) (k : R .non z) : spHold K CQ [.int i, .int most] z R E := by
  unfold spHold
  exact ⟨_, _, rfl, .inl ⟨i, rfl, h0, h1, k⟩⟩
theorem hold_out {CQ : Addr} {d : D} {most : Int} {z : Z} {R : D → Z → Prop} {E : PX} (h : BadLev K most d) (k : E CQ ["level"] [d] z) : spHold K CQ [d, .int most] z R E := by
  unfold spHold
  exact ⟨_, _, rfl, .inr ⟨h, k⟩⟩
abbrev s_Square_init : Stmt := (inClass (top 14) 0)
abbrev Square_init.N : List Str := ["self", "grid", "level", "east", "north", "signs", "k", "cut", "alphabet"]
abbrev Square_init.ps : List Str := ["self", "grid", "level", "east", "north"]
theorem sc_Square_init : FnScope Square_init.N Square_init.ps (defScope s_Square_init) := ⟨rfl, rfl, rfl, by decide +kernel, rfl, by decide +kernel, by decide +kernel⟩
theorem ok_Square_init (F : Fun K "__init__" "Square.__init__" s_Square_init f fd) (O : Own K CS sqNs) (T : T14 mg) (GF : GridFn P w K mg base CG CB)
    (C_hold_level : Callee P w K mg base (L2.CX P w) 3 "hold_level" s_hold_level hold_level.ps (lift K (spHold K CQ))) : FnG P w K mg base (L2.CX P w) 4 f fd Square_init.ps (liftI K CS (spSquare K CG CQ)) := by
  obtain ⟨O_Grid, G_Grid, N_Grid, R_Grid, W_Grid, I_Grid, C_Grid, C_Grid_eq, C_Grid_len, C_Grid_str, C_Grid_repr, C_Grid_alphabet, C_Grid_cut, C_Grid_side⟩ := GF
  refine ibodyX F sc_Square_init (fun ds z R RX h => ?_) fun cdv A outer s H E hr hg => ⟨_, (dss_cons (ds_expr (C_hold_level.dE rfl hr hg (fun σ => passAt (takes_of rfl rfl rfl rfl) σ) (das_cons (de_var 2) (das_cons (C_Grid_len.dLen hr hg rfl T.b_len (de_var 1)) das_nil))))
      (dss_cons (ds_fldS (i := 0) rfl (de_var 1) rfl)
      (dss_cons (ds_fldS (i := 0) rfl (de_var 2) rfl)
      (dss_cons (ds_fldS (i := 0) rfl (de_var 3) rfl)
      (dss_cons (ds_fldS (i := 0) rfl (de_var 4) rfl)
      (dss_cons (ds_set (i := 5) sc_Square_init.nd rfl (Or.inl rfl) de_str)
      (dss_cons (ds_for (passes_of rfl) rfl (di_range3 rfl T.b_range (da_cons (dp_var 2) (da_cons (dp_of de_int) (da_cons (dp_of (de_neg (dp_of de_int))) da_nil)))) (dg_name (i := 6) sc_Square_init.nd rfl (Or.inl rfl)) (dss_cons (ds_par (i := 7) (j := 8) rfl sc_Square_init.nd rfl rfl (by decide) rfl rfl (das_cons (C_Grid_cut.d0 (de_var 1) hr hg (atAll pass0) (das_cons (de_var 6) das_nil)) (das_cons (C_Grid_alphabet.d0 (de_var 1) hr hg (atAll pass0) (das_cons (de_var 6) das_nil)) das_nil)) (by rfl))
      (dss_cons (ds_set (i := 5) sc_Square_init.nd rfl (Or.inl rfl) (de_op od_add (dp_of (de_op od_add (dp_of (de_ix od_ix (dp_var 8) (dp_of (de_op od_mod (dp_var 3) (dp_var 7))) (fun _ _ => rfl))) (dp_of (de_ix od_ix (dp_var 8) (dp_of (de_op od_mod (dp_var 4) (dp_var 7))) (fun _ _ => rfl))))) (dp_var 5)))
      (dss_cons (ds_aug (i := 3) sc_Square_init.nd rfl (Or.inl rfl) (dp_var 7) id_fdiv)
      (dss_one (ds_aug (i := 4) sc_Square_init.nd rfl (Or.inl rfl) (dp_var 7) id_fdiv))))))
      (dss_cons (ds_fldS (i := 0) rfl (de_var 5) rfl)
      (dss_one (ds_fldS (i := 0) rfl (de_joined (pj_cons (df_fmt (dp_var 3)) (pj_cons df_str (pj_cons (df_fmt (dp_var 4)) pj_nil)))) rfl)))))))))), fun ds z R RX x h => ?_⟩
  · unfold spSquare at h
    obtain ⟨l, al, d, e, n, rfl, _⟩ := h
    rfl
  · unfold spSquare at h
    obtain ⟨l, al, d, e, n, rfl, g, he, hn, h⟩ := h
    have hm := g.many
    walk_at "d"
    refine ⟨gridD_ins _ _ _, use_GLen ?_⟩
    walk_at "d"
    refine ⟨⟨by omega, by omega⟩, ?_⟩
    rcases h with ⟨lev, rfl, hlev, k⟩ | ⟨hb, k⟩
    · refine hold_in (by omega) (by omega) ?_
      walk_at "d"
      refine ⟨O.at (by simp), by decide, O.at (by simp), by decide, O.at (by simp), by decide, O.at (by simp), by decide, ?_⟩
      have hln : ((lev : Int) - 0).toNat = lev := by omega
      rw [hln]
      refine ⟨⟨by omega, by omega, by decide, by decide⟩, ?_⟩
      refine forD_inv (fun i ρ z' => ∃ a6 a7 a8, ρ = [.obj x CS ["grid", "level", "east", "north"] [gridD CG l al, .int lev, .int e, .int n], .val (gridD CG l al), .val (.int lev), .val (.int (wheel al lev e n i).2.1), .val (.int (wheel al lev e n i).2.2), .val (.str (S (wheel al lev e n i).1)), a6, a7, a8] ∧ z' = z) ⟨_, _, _, rfl, rfl⟩ ?_ ?_
      · rintro i d ρ z' hdi ⟨a6, a7, a8, rfl, rfl⟩
        have hi := lt_of_get hdi
        unfold rngC at hdi hi
        rw [List.length_map, List.length_range] at hi
        rw [List.getElem?_map, List.getElem?_range hi] at hdi
        cases hdi
        obtain ⟨a, ea⟩ : ∃ a, al[lev - i - 1]? = some a := ⟨_, List.getElem?_eq_getElem (by omega)⟩
        have ha := g.size (List.mem_of_getElem? ea)
        walk_at "d"
        refine ⟨meth_G (by decide), use_cut (lev - i - 1) (by omega) ea (by omega) ?_⟩
        walk_at "d"
        refine ⟨meth_G (by decide), use_alphabet (lev - i - 1) (by omega) ea ?_⟩
        walk_at "d"
        obtain ⟨b1, b2, b3⟩ := wheel_bd al lev e n i
        have hSa : (S a).length ≤ sizeLine := by rw [S_len]; exact Nat.le_trans ha.2 (by decide)
        have hpos : (0 : Int) < (a.length : Int) := by omega
        refine ⟨hpos, hSa, _, at_mod (by omega) _, hpos, hSa, _, at_mod (by omega) _, by show 1 + 1 ≤ sizeLine; decide, ?_⟩
        have hw : wheel al lev e n (i + 1) = (((a[((wheel al lev e n i).2.1 % a.length).toNat]?).getD 0) :: ((a[((wheel al lev e n i).2.2 % a.length).toNat]?).getD 0) :: (wheel al lev e n i).1, (wheel al lev e n i).2.1 / a.length, (wheel al lev e n i).2.2 / a.length) := by
          simp only [wheel, ea, Option.getD_some]
        have hlog : (a.length : Int).natAbs.log2 < 9000 := Nat.lt_of_lt_of_le (log_small (i := (a.length : Int)) (k := 100) (by omega) (by decide) (by decide)) (by decide)
        rw [hw]
        generalize ((a[((wheel al lev e n i).2.1 % a.length).toNat]?).getD 0) = c1
        generalize ((a[((wheel al lev e n i).2.2 % a.length).toNat]?).getD 0) = c2
        have hS : (⟨#[c1]⟩ ++ ⟨#[c2]⟩ : Str) ++ S (wheel al lev e n i).1 = S (c1 :: c2 :: (wheel al lev e n i).1) := by
          show S [c1] ++ S [c2] ++ S (wheel al lev e n i).1 = _
          rw [S_cat, S_cat]
          rfl
        rw [hS]
        refine ⟨?_, ⟨hpos, hlog⟩, ⟨hpos, hlog⟩, _, _, _, rfl⟩
        have q : (S (wheel al lev e n i).1).length = 2 * i := by rw [S_len]; exact b3
        rw [q]
        exact Nat.le_trans (show 2 + 2 * i ≤ 12 by omega) (by decide)
      · rintro ρ z' ⟨a6, a7, a8, rfl, rfl⟩
        rw [show (rngC (lev : Int) (-1) lev).length = lev by unfold rngC; rw [List.length_map, List.length_range]]
        walk_at "d"
        obtain ⟨b1, b2, b3⟩ := wheel_bd al lev e n lev
        have l1 := log_small (i := (wheel al lev e n lev).2.1) (k := 200) (Nat.lt_of_le_of_lt b1 he) (by decide) (by decide)
        have l2 := log_small (i := (wheel al lev e n lev).2.2) (k := 200) (Nat.lt_of_le_of_lt b2 hn) (by decide) (by decide)
        have t1 := PyProof.Rows.int_text_len_1921 l1
        have t2 := PyProof.Rows.int_text_len_1921 l2
        have h0 : Str.empty.length = 0 := rfl
        have hs : (Str.ofString "/").length = 1 := by decide +kernel
        refine ⟨O.at (by simp), by decide, l1, Nat.le_trans (show _ ≤ 5000 by rw [cat_len]; omega) (by decide), Nat.le_trans (show _ ≤ 5000 by rw [cat_len, cat_len]; omega) (by decide), l2,
          Nat.le_trans (show _ ≤ 5000 by rw [cat_len, cat_len, cat_len]; omega) (by decide), O.at (by simp), by decide, ?_⟩
        exact k
    · refine hold_out hb ?_
      exact k
end

end K14

set_option Elab.async false
set_option linter.all false
set_option maxRecDepth 100000
set_option maxHeartbeats 2000000
namespace K14
open PySem L2 Lay RZ SkE SX
/-! ### reading steps over trees -/
local macro_rules | `(tactic| walk_at "d") => `(tactic| try simp -implicitDefEqProofs only [cxK, noxK, wishK, startD, startI, List.map_cons, List.map_nil, List.length_cons, List.length_nil, List.length_singleton, Nat.zero_add, Nat.reduceAdd, Nat.reduceSub, Nat.add_one_sub_one, List.replicate_succ, List.replicate_zero, List.cons_append, List.nil_append, List.append_nil,
  ap_dVar, ap_dPeek, ap_dC, ap_dOp, ap_dTest, ap_dChain, ap_dTru, ap_dAndB, ap_dOrB, ap_dNotB, ap_dAnd, ap_dOr, ap_dNot, ap_dNil, ap_dCons, ap_dTup, ap_dLst, ap_dLet, ap_dSized, ap_dUn, ap_dNoPart, ap_dPart, ap_dSl, ap_dFn, ap_dMt, ap_dMt0, ap_dFs, ap_dFmt, ap_dJoin, ap_dNext, ap_dSeq, ap_dDrop, ap_dRet, ap_dIf, ap_dAsg, ap_dSet, ap_dOwn, ap_dAppend, ap_dAug, ap_dFldS, ap_dPar, ap_dPar3, ap_dIt, ap_dItA, ap_dFor, ap_dLc, ap_dYes, ap_dCall, ap_dCall0, ap_dCallKw, ap_dCallKw0, ap_dMeth, ap_dMeth0, ap_dMethKw, ap_dOne, ap_dFmtO, ap_dEqO, ap_dReqO, ap_dMake, ap_dMake0, ap_dMakeKw, ap_dMakeKw0, ap_dRaise, ap_dPair, ap_dCat, ex_obj1, ex_obj2, ex_ins1, ex_ins2, ex_str, ex_own, ex_val, ap_ix0, ap_ix1, ap_ix2, e_lenOk, e_isStr, le_sz0, le_sz1, le_sz2, le_sz3, le_sz4, le_sz5, le_sz6, le_sz7, le_sz8, ap_dIfE, ap_isD, ap_in1, ap_in2, ap_in3, ap_isi, ap_sum, ap_any, ap_dJs0, ap_dJs1, ap_dgName, ap_dgTup, ap_dgCons, ap_dgNil, ap_dTry, ap_dXf, e_tru1, e_tru2, e_tru3, e_tru4, e_tru5, e_tru6, e_tru7, e_fmtD1, e_fmtD2, e_iterD1, e_iterD2, e_iterD3, e_iterD4, e_addD1, e_addD2, e_addD3, e_addD4, e_subD1, e_mulD1, e_mulD2, e_mulD3, e_fdivD1, e_modD1, e_powD1, e_cmpD1, e_cmpD2, e_eqD1, e_eqD2, e_eqD3, e_eqD4, e_eqD5, e_eqD6, e_eqD7, e_eqD8, e_eqD9, e_eqD10, e_eqD11, e_eqD12, e_eqD13, e_eqD14, e_isNonD1, e_negD1, e_ixD1, e_ixD2, e_ixD3, e_ixD4, e_slD1, e_slD2, e_slD3, e_slD4, e_lenD1, e_lenD2, e_lenD3, e_lenD4, e_absD1, e_mmD1, e_intD1, e_intD2, e_intD3, e_strD1, e_strD2, e_tupleD1, e_tupleD2, e_tupleD3, e_listD1, e_listD2, e_listD3, e_splitD1, e_joinD1, e_joinD2, e_str1D1, e_iaddD1, e_iaddD2, e_imulD1, e_ifdivD1, e_enumD1, e_enumD2, e_zipF1, e_zipF2, e_rng11, e_rng21, e_rng31, e_fldD1, e_dixD1, e_dixD2, e_revSD1, e_catD1, ap_dTryK, ap_dSetX, kx_any, kx_val, kx_own, kx_exc, e_xfD, e_nonX, e_rngW, ap_dExtend, e_extD, ap_best, ap_dItR, e_revF1, e_revF2, e_revF3, ap_dTryN, ap_dRaiseU, ap_dSplitN, e_splitN, ap_dSetIx, e_setD, e_zipG, ap_dTupO, e_caseD, e_rngS, e_enumG, ap_dInO, ap_dPopSet, e_popD, ap_dAppPop, ap_dPairON, ap_dListN, e_listN1, e_listN2, e_listN3, e_listN4, ltD, leD, gtD, geD, minD, maxD, wipeD,
  List.set_cons_zero, List.set_cons_succ, List.getElem?_cons_zero, List.getElem?_cons_succ, List.length_set, if_true, if_false, Bool.false_eq_true, reduceIte, id, Bool.not_true, Bool.not_false, true_and, and_true, List.zip_cons_cons, List.zip_nil_right, List.zip_nil_left, reduceCtorEq, Option.some.injEq,
  Nat.reduceLT, Nat.reduceLeDiff, Nat.reduceEqDiff, and_self, ite_self, decide_true, decide_false, eq_self])
local macro_rules | `(tactic| walk_at "ds") => `(tactic| first | rfl | decide | assumption | omega | exact Nat.le_of_ble_eq_true rfl)

section
variable {P : Program} {w : World} {K : PySem.W.Frag} {mg : Str → Option Value} {base : Heap} {f : Addr} {fd : FuncData} {CG CB CE CS CQ : Addr}
def sqD (CS CG : Addr) (l : List Nat) (al : List (List Nat)) (lev : Nat) (e n : Int) : D := .ins CS sqNs (sqDs CG l al lev e n)
section
variable {l : List Nat} {al : List (List Nat)} {lev : Nat} {e n : Int} {k : D → Prop} (O : Own K CS sqNs)
include O
theorem fld_grid : fldD K "grid" (sqD CS CG l al lev e n) k = k (gridD CG l al) := fld_of (O.at (by simp)) rfl
theorem fld_level : fldD K "level" (sqD CS CG l al lev e n) k = k (.int lev) := fld_of (O.at (by simp)) rfl
theorem fld_east : fldD K "east" (sqD CS CG l al lev e n) k = k (.int e) := fld_of (O.at (by simp)) rfl
theorem fld_north : fldD K "north" (sqD CS CG l al lev e n) k = k (.int n) := fld_of (O.at (by simp)) rfl
end
/-- how many squares of the level lev lie in one of the level m, along one side -/
def manyQ (al : List (List Nat)) (m lev : Nat) : Int := prodL (al.drop m) / prodL (al.drop lev)
section
variable {l : List Nat} {al : List (List Nat)}
theorem prodL_app : ∀ a b : List (List Nat), prodL (a ++ b) = prodL a * prodL b
  | [], b => by show prodL b = 1 * prodL b; rw [Int.one_mul]
  | x :: a, b => by
    have := prodL_app a b
    simp only [List.cons_append, prodL]
    rw [this, Int.mul_assoc]
theorem manyQ_pos {al : List (List Nat)} {m lev : Nat} (g : GOk l al) (h : m ≤ lev) (hl : lev ≤ al.length) : 1 ≤ manyQ al m lev ∧ manyQ al m lev ≤ 7962624 ∧ prodL (al.drop m) = manyQ al m lev * prodL (al.drop lev) := by
  obtain ⟨b1, b2⟩ := g.sub (ws := al.drop lev) (fun a q => List.mem_of_mem_drop q) (by rw [List.length_drop]; omega)
  obtain ⟨c1, c2⟩ := g.sub (ws := (al.drop m).take (lev - m)) (fun a q => List.mem_of_mem_drop (List.mem_of_mem_take q)) (by rw [List.length_take, List.length_drop]; omega)
  have e : prodL (al.drop m) = prodL ((al.drop m).take (lev - m)) * prodL (al.drop lev) := by
    rw [← prodL_app]
    congr 1
    have q := (List.take_append_drop (lev - m) (al.drop m)).symm
    rwa [List.drop_drop, show m + (lev - m) = lev by omega] at q
  have e2 : manyQ al m lev = prodL ((al.drop m).take (lev - m)) := by
    unfold manyQ
    rw [e]
    exact Int.mul_ediv_cancel _ (by omega)
  rw [e2]
  exact ⟨c1, c2, e⟩
theorem use_Square {CQ : Addr} {e n : Int} {z : Z} {R : List Str → List D → Z → Prop} {E : PX} {lev : Nat} (g : GOk l al) (he : e.natAbs < 2 ^ 200) (hn : n.natAbs < 2 ^ 200) (hl : lev ≤ al.length) (k : R sqNs (sqDs CG l al lev e n) z) :
    spSquare K CG CQ [gridD CG l al, .int lev, .int e, .int n] z R E := by
  unfold spSquare
  exact ⟨l, al, _, e, n, rfl, g, he, hn, .inl ⟨lev, rfl, hl, k⟩⟩
end
@[irreducible] def spWider (K : PySem.W.Frag) (CS CG CQ : Addr) : PSp := fun ds z R RX => ∃ l al lev e n d, ds = [sqD CS CG l al lev e n, d] ∧ GOk l al ∧ lev ≤ al.length ∧ e.natAbs < 2 ^ 200 ∧ n.natAbs < 2 ^ 200 ∧
  ((∃ m : Nat, d = .int m ∧ m ≤ lev ∧ R (sqD CS CG l al m (e / manyQ al m lev) (n / manyQ al m lev)) z) ∨ BadLev K lev d ∧ RX CQ ["level"] [d] z)
theorem spWider_of {K : PySem.W.Frag} {CS CG CQ : Addr} {ds : List D} {z : Z} {R : D → Z → Prop} {RX : PX} (h_ : ∃ l al lev e n d, ds = [sqD CS CG l al lev e n, d] ∧ GOk l al ∧ lev ≤ al.length ∧ e.natAbs < 2 ^ 200 ∧ n.natAbs < 2 ^ 200 ∧
  ((∃ m : Nat, d = .int m ∧ m ≤ lev ∧ R (sqD CS CG l al m (e / manyQ al m lev) (n / manyQ al m lev)) z) ∨ BadLev K lev d ∧ RX CQ ["level"] [d] z)) : spWider K CS CG CQ ds z R RX := by unfold spWider; exact h_
theorem spWider_un {K : PySem.W.Frag} {CS CG CQ : Addr} {ds : List D} {z : Z} {R : D → Z → Prop} {RX : PX} (h_ : spWider K CS CG CQ ds z R RX) : ∃ l al lev e n d, ds = [sqD CS CG l al lev e n, d] ∧ GOk l al ∧ lev ≤ al.length ∧ e.natAbs < 2 ^ 200 ∧ n.natAbs < 2 ^ 200 ∧
  ((∃ m : Nat, d = .int m ∧ m ≤ lev ∧ R (sqD CS CG l al m (e / manyQ al m lev) (n / manyQ al m lev)) z) ∨ BadLev K lev d ∧ RX CQ ["level"] [d] z) := by unfold spWider at h_; exact h_
abbrev s_Square_wider : Stmt := (inClass (top 14) 5)
abbrev Square_wider.N : List Str := ["self", "level", "many"]
abbrev Square_wider.ps : List Str := ["self", "level"]
theorem sc_Square_wider : FnScope Square_wider.N Square_wider.ps (defScope s_Square_wider) := ⟨rfl, rfl, rfl, by decide +kernel, rfl, by decide +kernel, by decide +kernel⟩
theorem ok_Square_wider (F : Fun K "wider" "Square.wider" s_Square_wider f fd) (O : Own K CS sqNs) (T : T14 mg) (GF : GridFn P w K mg base CG CB)
    (C_hold_level : Callee P w K mg base (L2.CX P w) 3 "hold_level" s_hold_level hold_level.ps (lift K (spHold K CQ))) (C_Square : Maker P w K mg base (L2.CX P w) 4 "Square" CS (dR s_Square_init "__init__" "Square.__init__" K) Square_init.ps (liftI K CS (spSquare K CG CQ))) :
    FnG P w K mg base (L2.CX P w) 6 f fd Square_wider.ps (lift K (spWider K CS CG CQ)) := by
  obtain ⟨O_Grid, G_Grid, N_Grid, R_Grid, W_Grid, I_Grid, C_Grid, C_Grid_eq, C_Grid_len, C_Grid_str, C_Grid_repr, C_Grid_alphabet, C_Grid_cut, C_Grid_side⟩ := GF
  refine dbodyX F sc_Square_wider (fun ds z R RX h => ?_) fun cdv A outer s H E hr hg => ⟨_, (dss_cons (ds_expr (C_hold_level.dE rfl hr hg (fun σ => passAt (takes_of rfl rfl rfl rfl) σ) (das_cons (de_var 1) (das_cons (de_fldK (K := K) rfl (dp_var 0) rfl) das_nil))))
      (dss_cons (ds_set (i := 2) sc_Square_wider.nd rfl (Or.inl rfl) (de_op od_fdiv (dp_of (C_Grid_side.d0 (de_fldK (K := K) rfl (dp_var 0) rfl) hr hg (atAll pass0) (das_cons (de_var 1) das_nil))) (dp_of (C_Grid_side.d0 (de_fldK (K := K) rfl (dp_var 0) rfl) hr hg (atAll pass0) (das_cons (de_fldK (K := K) rfl (dp_var 0) rfl) das_nil)))))
      (dss_one (ds_ret (C_Square.dE rfl hr hg (fun σ => passAt (takes_of rfl rfl rfl rfl) σ) (das_cons (de_fldK (K := K) rfl (dp_var 0) rfl) (das_cons (de_var 1) (das_cons (de_op od_fdiv (dp_of (de_fldK (K := K) rfl (dp_var 0) rfl)) (dp_var 2)) (das_cons (de_op od_fdiv (dp_of (de_fldK (K := K) rfl (dp_var 0) rfl)) (dp_var 2)) das_nil))))))))), fun ds z R RX h => ?_⟩
  · unfold spWider at h
    obtain ⟨l, al, lev, e, n, d, rfl, _⟩ := h
    rfl
  · unfold spWider at h
    obtain ⟨l, al, lev, e, n, d, rfl, g, hlev, he, hn, h⟩ := h
    walk_at "d"
    simp only [fld_grid O, fld_level O, fld_east O, fld_north O]
    walk_at "d"
    have hm := g.many
    rcases h with ⟨m, rfl, hml, k⟩ | ⟨hb, k⟩
    · obtain ⟨q1, q2, q3⟩ := manyQ_pos g hml hlev
      obtain ⟨b1, b2⟩ := g.sub (ws := al.drop lev) (fun a q => List.mem_of_mem_drop q) (by rw [List.length_drop]; omega)
      refine hold_in (by omega) (by omega) ?_
      walk_at "d"
      refine ⟨meth_G (by decide), use_side m rfl g (by omega) ?_⟩
      walk_at "d"
      refine ⟨meth_G (by decide), use_side lev rfl g (by omega) ?_⟩
      walk_at "d"
      have hlog : ∀ i : Int, 1 ≤ i → i ≤ 7962624 → i.natAbs.log2 < 9000 := fun i h1 h2 => Nat.lt_of_lt_of_le (log_small (k := 100) (Nat.lt_of_le_of_lt (show i.natAbs ≤ 7962624 by omega) (by decide)) (by decide) (by decide)) (by decide)
      rw [show prodL (al.drop m) / prodL (al.drop lev) = manyQ al m lev from rfl]
      rw [if_pos (show 0 < prodL (al.drop lev) by omega), if_pos (show 0 < manyQ al m lev by omega), if_pos (show 0 < manyQ al m lev by omega)]
      refine ⟨hlog _ b1 b2, hlog _ q1 q2, hlog _ q1 q2, use_Square g (Nat.lt_of_le_of_lt (Int.natAbs_ediv_le_natAbs _ _) he) (Nat.lt_of_le_of_lt (Int.natAbs_ediv_le_natAbs _ _) hn) (by omega) ?_⟩
      exact k
    · refine hold_out hb ?_
      exact k
/-- the parts of a square, by column, then by row -/
def partsD (CS CG : Addr) (l : List Nat) (al : List (List Nat)) (lev : Nat) (e n c : Int) : List D :=
  ((List.range c.toNat).map fun i => (List.range c.toNat).map fun j => sqD CS CG l al (lev + 1) (e * c + (i : Nat)) (n * c + (j : Nat))).flatten
@[irreducible] def spParts (CS CG : Addr) : PSp := fun ds z R _ => ∃ l al lev e n, ds = [sqD CS CG l al lev e n] ∧ GOk l al ∧ lev ≤ al.length ∧ e.natAbs < 2 ^ 150 ∧ n.natAbs < 2 ^ 150 ∧
  (lev = al.length → R (.tup []) z) ∧ ∀ a, al[lev]? = some a → R (.tup (partsD CS CG l al lev e n a.length)) z
theorem spParts_of {CS CG : Addr} {ds : List D} {z : Z} {R : D → Z → Prop} {E : PX} (h_ : ∃ l al lev e n, ds = [sqD CS CG l al lev e n] ∧ GOk l al ∧ lev ≤ al.length ∧ e.natAbs < 2 ^ 150 ∧ n.natAbs < 2 ^ 150 ∧
  (lev = al.length → R (.tup []) z) ∧ ∀ a, al[lev]? = some a → R (.tup (partsD CS CG l al lev e n a.length)) z) : spParts CS CG ds z R E := by unfold spParts; exact h_
theorem spParts_un {CS CG : Addr} {ds : List D} {z : Z} {R : D → Z → Prop} {E : PX} (h_ : spParts CS CG ds z R E) : ∃ l al lev e n, ds = [sqD CS CG l al lev e n] ∧ GOk l al ∧ lev ≤ al.length ∧ e.natAbs < 2 ^ 150 ∧ n.natAbs < 2 ^ 150 ∧
  (lev = al.length → R (.tup []) z) ∧ ∀ a, al[lev]? = some a → R (.tup (partsD CS CG l al lev e n a.length)) z := by unfold spParts at h_; exact h_
end

section
variable {P : Program} {w : World} {K : PySem.W.Frag} {mg : Str → Option Value} {base : Heap} {f : Addr} {fd : FuncData} {CG CB CE CS CQ : Addr}
section
variable {l : List Nat} {al : List (List Nat)} {lev : Nat} {e n : Int} {k : D → Prop} (O : Own K CS sqNs)
include O
theorem fld_signs : fldD K "signs" (sqD CS CG l al lev e n) k = k (.str (S (signsQ al lev e n))) := fld_of (O.at (by simp)) rfl
theorem fld_sheet : fldD K "sheet" (sqD CS CG l al lev e n) k = k (.str (sheetQ al lev e n)) := fld_of (O.at (by simp)) rfl
end
theorem sqD_ins (CS CG : Addr) (l : List Nat) (al : List (List Nat)) (lev : Nat) (e n : Int) : ∃ ns ds, sqD CS CG l al lev e n = .ins CS ns ds := ⟨_, _, rfl⟩
theorem meth_Q {m : Str} {l : List Nat} {al : List (List Nat)} {lev : Nat} {e n : Int} (h : m ∉ sqNs) : ∃ ns ds, sqD CS CG l al lev e n = .ins CS ns ds ∧ m ∉ ns := ⟨_, _, rfl, h⟩
@[irreducible] def spSqEq (K : PySem.W.Frag) (CS CG : Addr) : PSp := fun ds z R _ => ∃ l al lev e n d, ds = [sqD CS CG l al lev e n, d] ∧ l.length ≤ 100000 ∧
  ((∃ l2 al2 lev2 e2 n2, d = sqD CS CG l2 al2 lev2 e2 n2 ∧ R (.bl (decide (l = l2 ∧ lev = lev2 ∧ e = e2 ∧ n = n2))) z) ∨ ∃ t, tyD K d t ∧ PySem.W.kitOne K t (.ref CS) = some false ∧ R (.bl false) z)
theorem spSqEq_of {K : PySem.W.Frag} {CS CG : Addr} {ds : List D} {z : Z} {R : D → Z → Prop} {E : PX} (h_ : ∃ l al lev e n d, ds = [sqD CS CG l al lev e n, d] ∧ l.length ≤ 100000 ∧
  ((∃ l2 al2 lev2 e2 n2, d = sqD CS CG l2 al2 lev2 e2 n2 ∧ R (.bl (decide (l = l2 ∧ lev = lev2 ∧ e = e2 ∧ n = n2))) z) ∨ ∃ t, tyD K d t ∧ PySem.W.kitOne K t (.ref CS) = some false ∧ R (.bl false) z)) : spSqEq K CS CG ds z R E := by unfold spSqEq; exact h_
theorem spSqEq_un {K : PySem.W.Frag} {CS CG : Addr} {ds : List D} {z : Z} {R : D → Z → Prop} {E : PX} (h_ : spSqEq K CS CG ds z R E) : ∃ l al lev e n d, ds = [sqD CS CG l al lev e n, d] ∧ l.length ≤ 100000 ∧
  ((∃ l2 al2 lev2 e2 n2, d = sqD CS CG l2 al2 lev2 e2 n2 ∧ R (.bl (decide (l = l2 ∧ lev = lev2 ∧ e = e2 ∧ n = n2))) z) ∨ ∃ t, tyD K d t ∧ PySem.W.kitOne K t (.ref CS) = some false ∧ R (.bl false) z) := by unfold spSqEq at h_; exact h_
abbrev s_Square_eq : Stmt := (inClass (top 14) 1)
abbrev Square_eq.N : List Str := ["self", "other"]
abbrev Square_eq.ps : List Str := ["self", "other"]
theorem sc_Square_eq : FnScope Square_eq.N Square_eq.ps (defScope s_Square_eq) := ⟨rfl, rfl, rfl, by decide +kernel, rfl, by decide +kernel, by decide +kernel⟩
theorem ok_Square_eq (F : Fun K "__eq__" "Square.__eq__" s_Square_eq f fd) (O : Own K CS sqNs) (T : T14 mg) (G_Square : mg "Square" = some (.ref CS)) (GF : GridFn P w K mg base CG CB) : FnG P w K mg base CX0 3 f fd Square_eq.ps (lift K (spSqEq K CS CG)) := by
  obtain ⟨O_Grid, G_Grid, N_Grid, R_Grid, W_Grid, I_Grid, C_Grid, C_Grid_eq, C_Grid_len, C_Grid_str, C_Grid_repr, C_Grid_alphabet, C_Grid_cut, C_Grid_side⟩ := GF
  refine dbody F sc_Square_eq (fun ds z R RX h => ?_) fun cdv A outer s H E hr hg => ⟨_, (dss_cons (ds_if (DWt.pt (dw_or (dt_not (dt_truth (dp_of (de_fn (cd_isiK (K := K) rfl) (by rfl) T.b_isinstance (by decide +kernel) (da_cons (dp_var 1) (da_cons (dp_of (de_c (pe_globR rfl G_Square) (fun _ _ => Rep.a))) da_nil)))))) (dw_or (Method.tNeK (K := K) rfl C_Grid_eq N_Grid hr hg (de_fldK (K := K) rfl (dp_var 0) rfl) (de_fldK (K := K) rfl (dp_var 1) rfl)) (dw_or1 (dt_cmp (od_ne hr.units) (dp_of (de_fldK (K := K) rfl (dp_var 0) rfl)) (dp_of (de_fldK (K := K) rfl (dp_var 1) rfl)) (nomark _)))))) (dss_one (ds_ret de_bl)) dss_nil)
      (dss_one (ds_ret (de_and (de_cmp (od_eq hr.units) (dp_of (de_fldK (K := K) rfl (dp_var 0) rfl)) (dp_of (de_fldK (K := K) rfl (dp_var 1) rfl)) (nomark _)) (de_one (de_cmp (od_eq hr.units) (dp_of (de_fldK (K := K) rfl (dp_var 0) rfl)) (dp_of (de_fldK (K := K) rfl (dp_var 1) rfl)) (nomark _))))))), fun ds z R RX h => ?_⟩
  · obtain ⟨l, al, lev, e, n, d, rfl, _⟩ := spSqEq_un h
    rfl
  · obtain ⟨l, al, lev, e, n, d, rfl, hl, ⟨l2, al2, lev2, e2, n2, rfl, k⟩ | ⟨t, ht, hk, k⟩⟩ := spSqEq_un h
    · walk_at "d"
      refine ⟨.ref CS, .ref CS, true, ⟨rfl, O.oty⟩, rfl, kit_self, ?_⟩
      walk_at "d"
      simp only [fld_grid O]
      walk_at "d"
      refine ⟨gridD_ins _ _ _, ⟨.ref CG, ⟨rfl, O_Grid.oty⟩, notFirst_self⟩, use_GEq hl ?_⟩
      walk_at "d"
      by_cases q : l = l2
      · subst q
        rw [decide_eq_true rfl]
        walk_at "d"
        simp only [fld_level O]
        walk_at "d"
        by_cases q1 : lev = lev2
        · subst q1
          rw [decide_eq_true rfl]
          walk_at "d"
          simp only [fld_east O]
          walk_at "d"
          by_cases q2 : e = e2
          · subst q2
            rw [decide_eq_true rfl]
            walk_at "d"
            simp only [fld_north O]
            walk_at "d"
            have : decide (l = l ∧ lev = lev ∧ e = e ∧ n = n2) = decide (n = n2) := by simp
            rwa [this] at k
          · have : decide (l = l ∧ lev = lev ∧ e = e2 ∧ n = n2) = false := by simp [q2]
            rw [this] at k
            rw [decide_eq_false q2]
            walk_at "d"
            exact k
        · have : decide (l = l ∧ lev = lev2 ∧ e = e2 ∧ n = n2) = false := by simp [q1]
          rw [this] at k
          rw [decide_eq_false (show ¬ ((lev : Int) = (lev2 : Int)) by omega)]
          walk_at "d"
          exact k
      · have : decide (l = l2 ∧ lev = lev2 ∧ e = e2 ∧ n = n2) = false := by simp [q]
        rw [this] at k
        rw [decide_eq_false q]
        walk_at "d"
        exact k
    · walk_at "d"
      refine ⟨t, .ref CS, false, ht, rfl, hk, ?_⟩
      walk_at "d"
      exact k
@[irreducible] def spSqLen (CS CG : Addr) : PSp := fun ds z R _ => ∃ l al lev e n, ds = [sqD CS CG l al lev e n] ∧ lev ≤ 5 ∧ R (.int (2 * lev : Nat)) z
theorem spSqLen_of {CS CG : Addr} {ds : List D} {z : Z} {R : D → Z → Prop} {E : PX} (h_ : ∃ l al lev e n, ds = [sqD CS CG l al lev e n] ∧ lev ≤ 5 ∧ R (.int (2 * lev : Nat)) z) : spSqLen CS CG ds z R E := by unfold spSqLen; exact h_
theorem spSqLen_un {CS CG : Addr} {ds : List D} {z : Z} {R : D → Z → Prop} {E : PX} (h_ : spSqLen CS CG ds z R E) : ∃ l al lev e n, ds = [sqD CS CG l al lev e n] ∧ lev ≤ 5 ∧ R (.int (2 * lev : Nat)) z := by unfold spSqLen at h_; exact h_
theorem signsQ_len (al : List (List Nat)) (lev : Nat) (e n : Int) : (signsQ al lev e n).length = 2 * lev := (wheel_bd al lev e n lev).2.2
abbrev s_Square_len : Stmt := (inClass (top 14) 2)
abbrev Square_len.N : List Str := ["self"]
abbrev Square_len.ps : List Str := ["self"]
theorem sc_Square_len : FnScope Square_len.N Square_len.ps (defScope s_Square_len) := ⟨rfl, rfl, rfl, by decide +kernel, rfl, by decide +kernel, by decide +kernel⟩
theorem ok_Square_len (F : Fun K "__len__" "Square.__len__" s_Square_len f fd) (O : Own K CS sqNs) (T : T14 mg) : FnG P w K mg base CX0 1 f fd Square_len.ps (lift K (spSqLen CS CG)) := by
  refine dbody F sc_Square_len (fun ds z R RX h => ?_) fun cdv A outer s H E hr hg => ⟨_, (dss_one (ds_ret (de_fn cd_len (by rfl) T.b_len (by decide +kernel) (da_cons (dp_of (de_fldK (K := K) rfl (dp_var 0) rfl)) da_nil)))), fun ds z R RX h => ?_⟩
  · obtain ⟨l, al, lev, e, n, rfl, _⟩ := spSqLen_un h
    rfl
  · obtain ⟨l, al, lev, e, n, rfl, hlv, k⟩ := spSqLen_un h
    walk_at "d"
    simp only [fld_signs O]
    walk_at "d"
    rw [S_len, signsQ_len]
    exact ⟨Nat.le_trans (show 2 * lev ≤ 10 by omega) (by decide), k⟩
/-- the reference -/
def strQ (al : List (List Nat)) (lev : Nat) (e n : Int) : Str := if lev = 0 then sheetQ al lev e n else Str.empty ++ sheetQ al lev e n ++ Str.ofString " " ++ S (signsQ al lev e n)
theorem sheetQ_len {al : List (List Nat)} {lev : Nat} {e n : Int} (he : e.natAbs < 2 ^ 200) (hn : n.natAbs < 2 ^ 200) : (sheetQ al lev e n).length ≤ 5000 := by
  obtain ⟨b1, b2, b3⟩ := wheel_bd al lev e n lev
  have t1 := PyProof.Rows.int_text_len_1921 (log_small (i := (wheel al lev e n lev).2.1) (k := 200) (Nat.lt_of_le_of_lt b1 he) (by decide) (by decide))
  have t2 := PyProof.Rows.int_text_len_1921 (log_small (i := (wheel al lev e n lev).2.2) (k := 200) (Nat.lt_of_le_of_lt b2 hn) (by decide) (by decide))
  have h0 : Str.empty.length = 0 := rfl
  have hs : (Str.ofString "/").length = 1 := by decide +kernel
  unfold sheetQ
  rw [cat_len, cat_len, cat_len]
  omega
theorem strQ_len {al : List (List Nat)} {lev : Nat} {e n : Int} (hl : lev ≤ 5) (he : e.natAbs < 2 ^ 200) (hn : n.natAbs < 2 ^ 200) : (strQ al lev e n).length ≤ 5020 := by
  have := sheetQ_len (al := al) (lev := lev) he hn
  have h0 : Str.empty.length = 0 := rfl
  have hs : (Str.ofString " ").length = 1 := by decide +kernel
  unfold strQ
  split
  · omega
  · have hS : (S (signsQ al lev e n)).length = 2 * lev := by rw [S_len]; exact signsQ_len ..
    rw [cat_len, cat_len, cat_len, hS]
    omega
@[irreducible] def spSqStr (CS CG : Addr) : PSp := fun ds z R _ => ∃ l al lev e n, ds = [sqD CS CG l al lev e n] ∧ lev ≤ 5 ∧ e.natAbs < 2 ^ 200 ∧ n.natAbs < 2 ^ 200 ∧ R (.str (strQ al lev e n)) z
theorem spSqStr_of {CS CG : Addr} {ds : List D} {z : Z} {R : D → Z → Prop} {E : PX} (h_ : ∃ l al lev e n, ds = [sqD CS CG l al lev e n] ∧ lev ≤ 5 ∧ e.natAbs < 2 ^ 200 ∧ n.natAbs < 2 ^ 200 ∧ R (.str (strQ al lev e n)) z) : spSqStr CS CG ds z R E := by unfold spSqStr; exact h_
theorem spSqStr_un {CS CG : Addr} {ds : List D} {z : Z} {R : D → Z → Prop} {E : PX} (h_ : spSqStr CS CG ds z R E) : ∃ l al lev e n, ds = [sqD CS CG l al lev e n] ∧ lev ≤ 5 ∧ e.natAbs < 2 ^ 200 ∧ n.natAbs < 2 ^ 200 ∧ R (.str (strQ al lev e n)) z := by unfold spSqStr at h_; exact h_
abbrev s_Square_str : Stmt := (inClass (top 14) 3)
abbrev Square_str.N : List Str := ["self"]
abbrev Square_str.ps : List Str := ["self"]
theorem sc_Square_str : FnScope Square_str.N Square_str.ps (defScope s_Square_str) := ⟨rfl, rfl, rfl, by decide +kernel, rfl, by decide +kernel, by decide +kernel⟩
theorem ok_Square_str (F : Fun K "__str__" "Square.__str__" s_Square_str f fd) (O : Own K CS sqNs) (T : T14 mg) : FnG P w K mg base CX0 1 f fd Square_str.ps (lift K (spSqStr CS CG)) := by
  refine dbody F sc_Square_str (fun ds z R RX h => ?_) fun cdv A outer s H E hr hg => ⟨_, (dss_cons (ds_if (dt_cmp (od_eq hr.units) (dp_of (de_fldK (K := K) rfl (dp_var 0) rfl)) (dp_of de_int) (nomark _)) (dss_one (ds_ret (de_ty cd_str (by rfl) T.b_str (by decide +kernel) (da_cons (dp_of (de_fldK (K := K) rfl (dp_var 0) rfl)) da_nil)))) dss_nil)
      (dss_one (ds_ret (de_joined (pj_cons (df_fmt (dp_of (de_fldK (K := K) rfl (dp_var 0) rfl))) (pj_cons df_str (pj_cons (df_fmt (dp_of (de_fldK (K := K) rfl (dp_var 0) rfl))) pj_nil))))))), fun ds z R RX h => ?_⟩
  · obtain ⟨l, al, lev, e, n, rfl, _⟩ := spSqStr_un h
    rfl
  · obtain ⟨l, al, lev, e, n, rfl, hlv, he, hn, k⟩ := spSqStr_un h
    have hsl := sheetQ_len (al := al) (lev := lev) he hn
    unfold strQ at k
    walk_at "d"
    simp only [fld_level O, fld_signs O, fld_sheet O]
    walk_at "d"
    by_cases h0 : lev = 0
    · rw [if_pos h0] at k
      rw [decide_eq_true (show (lev : Int) = 0 by omega)]
      walk_at "d"
      exact k
    · rw [if_neg h0] at k
      rw [decide_eq_false (show ¬ (lev : Int) = 0 by omega)]
      walk_at "d"
      have e0 : Str.empty.length = 0 := rfl
      have hs : (Str.ofString " ").length = 1 := by decide +kernel
      have hz : 6000 ≤ sizeLine := by decide
      have hS : (S (signsQ al lev e n)).length = 2 * lev := by rw [S_len]; exact signsQ_len ..
      repeat refine ⟨by (try simp only [cat_len]); omega, ?_⟩
      exact k
def reprQ (al : List (List Nat)) (lev : Nat) (e n : Int) : Str := Str.empty ++ Str.ofString "Square('" ++ strQ al lev e n ++ Str.ofString "')"
@[irreducible] def spSqRepr (CS CG : Addr) : PSp := fun ds z R _ => ∃ l al lev e n, ds = [sqD CS CG l al lev e n] ∧ lev ≤ 5 ∧ e.natAbs < 2 ^ 200 ∧ n.natAbs < 2 ^ 200 ∧ R (.str (reprQ al lev e n)) z
theorem spSqRepr_of {CS CG : Addr} {ds : List D} {z : Z} {R : D → Z → Prop} {E : PX} (h_ : ∃ l al lev e n, ds = [sqD CS CG l al lev e n] ∧ lev ≤ 5 ∧ e.natAbs < 2 ^ 200 ∧ n.natAbs < 2 ^ 200 ∧ R (.str (reprQ al lev e n)) z) : spSqRepr CS CG ds z R E := by unfold spSqRepr; exact h_
theorem spSqRepr_un {CS CG : Addr} {ds : List D} {z : Z} {R : D → Z → Prop} {E : PX} (h_ : spSqRepr CS CG ds z R E) : ∃ l al lev e n, ds = [sqD CS CG l al lev e n] ∧ lev ≤ 5 ∧ e.natAbs < 2 ^ 200 ∧ n.natAbs < 2 ^ 200 ∧ R (.str (reprQ al lev e n)) z := by unfold spSqRepr at h_; exact h_
abbrev s_Square_repr : Stmt := (inClass (top 14) 4)
abbrev Square_repr.N : List Str := ["self", "text"]
abbrev Square_repr.ps : List Str := ["self"]
theorem sc_Square_repr : FnScope Square_repr.N Square_repr.ps (defScope s_Square_repr) := ⟨rfl, rfl, rfl, by decide +kernel, rfl, by decide +kernel, by decide +kernel⟩
theorem ok_Square_repr (F : Fun K "__repr__" "Square.__repr__" s_Square_repr f fd) (O : Own K CS sqNs) (T : T14 mg) (C_Square_str : Method P w K mg base CX0 1 CS "__str__" (dR s_Square_str "__str__" "Square.__str__" K) Square_str.ps (lift K (spSqStr CS CG))) :
    FnG P w K mg base CX0 4 f fd Square_repr.ps (lift K (spSqRepr CS CG)) := by
  refine dbody F sc_Square_repr (fun ds z R RX h => ?_) fun cdv A outer s H E hr hg => ⟨_, (dss_cons (ds_set (i := 1) sc_Square_repr.nd rfl (Or.inl rfl) (C_Square_str.dStr hr hg rfl T.b_str (de_var 0)))
      (dss_one (ds_ret (de_joined (pj_cons df_str (pj_cons (df_fmt (dp_var 1)) (pj_cons df_str pj_nil))))))), fun ds z R RX h => ?_⟩
  · obtain ⟨l, al, lev, e, n, rfl, _⟩ := spSqRepr_un h
    rfl
  · obtain ⟨l, al, lev, e, n, rfl, hlv, he, hn, k⟩ := spSqRepr_un h
    have hsl := strQ_len (al := al) hlv he hn
    walk_at "d"
    refine ⟨sqD_ins _ _ _ _ _ _ _, spSqStr_of ⟨_, _, _, _, _, rfl, hlv, he, hn, ?_⟩⟩
    walk_at "d"
    have e0 : Str.empty.length = 0 := rfl
    have h1 : (Str.ofString "Square('").length = 8 := by decide +kernel
    have h2 : (Str.ofString "')").length = 2 := by decide +kernel
    have hz : 6000 ≤ sizeLine := by decide
    repeat refine ⟨by (try simp only [cat_len]); omega, ?_⟩
    exact k
end

end K14

set_option Elab.async false
set_option linter.all false
set_option maxRecDepth 100000
set_option maxHeartbeats 2000000
namespace K14
open PySem L2 Lay RZ SkE SX
/-! ### reading steps over trees -/
local macro_rules | `(tactic| walk_at "d") => `(tactic| try simp -implicitDefEqProofs only [cxK, noxK, wishK, startD, startI, List.map_cons, List.map_nil, List.length_cons, List.length_nil, List.length_singleton, Nat.zero_add, Nat.reduceAdd, Nat.reduceSub, Nat.add_one_sub_one, List.replicate_succ, List.replicate_zero, List.cons_append, List.nil_append, List.append_nil,
  ap_dVar, ap_dPeek, ap_dC, ap_dOp, ap_dTest, ap_dChain, ap_dTru, ap_dAndB, ap_dOrB, ap_dNotB, ap_dAnd, ap_dOr, ap_dNot, ap_dNil, ap_dCons, ap_dTup, ap_dLst, ap_dLet, ap_dSized, ap_dUn, ap_dNoPart, ap_dPart, ap_dSl, ap_dFn, ap_dMt, ap_dMt0, ap_dFs, ap_dFmt, ap_dJoin, ap_dNext, ap_dSeq, ap_dDrop, ap_dRet, ap_dIf, ap_dAsg, ap_dSet, ap_dOwn, ap_dAppend, ap_dAug, ap_dFldS, ap_dPar, ap_dPar3, ap_dIt, ap_dItA, ap_dFor, ap_dLc, ap_dYes, ap_dCall, ap_dCall0, ap_dCallKw, ap_dCallKw0, ap_dMeth, ap_dMeth0, ap_dMethKw, ap_dOne, ap_dFmtO, ap_dEqO, ap_dReqO, ap_dMake, ap_dMake0, ap_dMakeKw, ap_dMakeKw0, ap_dRaise, ap_dPair, ap_dCat, ex_obj1, ex_obj2, ex_ins1, ex_ins2, ex_str, ex_own, ex_val, ap_ix0, ap_ix1, ap_ix2, e_lenOk, e_isStr, le_sz0, le_sz1, le_sz2, le_sz3, le_sz4, le_sz5, le_sz6, le_sz7, le_sz8, ap_dIfE, ap_isD, ap_in1, ap_in2, ap_in3, ap_isi, ap_sum, ap_any, ap_dJs0, ap_dJs1, ap_dgName, ap_dgTup, ap_dgCons, ap_dgNil, ap_dTry, ap_dXf, e_tru1, e_tru2, e_tru3, e_tru4, e_tru5, e_tru6, e_tru7, e_fmtD1, e_fmtD2, e_iterD1, e_iterD2, e_iterD3, e_iterD4, e_addD1, e_addD2, e_addD3, e_addD4, e_subD1, e_mulD1, e_mulD2, e_mulD3, e_fdivD1, e_modD1, e_powD1, e_cmpD1, e_cmpD2, e_eqD1, e_eqD2, e_eqD3, e_eqD4, e_eqD5, e_eqD6, e_eqD7, e_eqD8, e_eqD9, e_eqD10, e_eqD11, e_eqD12, e_eqD13, e_eqD14, e_isNonD1, e_negD1, e_ixD1, e_ixD2, e_ixD3, e_ixD4, e_slD1, e_slD2, e_slD3, e_slD4, e_lenD1, e_lenD2, e_lenD3, e_lenD4, e_absD1, e_mmD1, e_intD1, e_intD2, e_intD3, e_strD1, e_strD2, e_tupleD1, e_tupleD2, e_tupleD3, e_listD1, e_listD2, e_listD3, e_splitD1, e_joinD1, e_joinD2, e_str1D1, e_iaddD1, e_iaddD2, e_imulD1, e_ifdivD1, e_enumD1, e_enumD2, e_zipF1, e_zipF2, e_rng11, e_rng21, e_rng31, e_fldD1, e_dixD1, e_dixD2, e_revSD1, e_catD1, ap_dTryK, ap_dSetX, kx_any, kx_val, kx_own, kx_exc, e_xfD, e_nonX, e_rngW, ap_dExtend, e_extD, ap_best, ap_dItR, e_revF1, e_revF2, e_revF3, ap_dTryN, ap_dRaiseU, ap_dSplitN, e_splitN, ap_dSetIx, e_setD, e_zipG, ap_dTupO, e_caseD, e_rngS, e_enumG, ap_dInO, ap_dPopSet, e_popD, ap_dAppPop, ap_dPairON, ap_dListN, e_listN1, e_listN2, e_listN3, e_listN4, ltD, leD, gtD, geD, minD, maxD, wipeD,
  List.set_cons_zero, List.set_cons_succ, List.getElem?_cons_zero, List.getElem?_cons_succ, List.length_set, if_true, if_false, Bool.false_eq_true, reduceIte, id, Bool.not_true, Bool.not_false, true_and, and_true, List.zip_cons_cons, List.zip_nil_right, List.zip_nil_left, reduceCtorEq, Option.some.injEq,
  Nat.reduceLT, Nat.reduceLeDiff, Nat.reduceEqDiff, and_self, ite_self, decide_true, decide_false, eq_self])
local macro_rules | `(tactic| walk_at "ds") => `(tactic| first | rfl | decide | assumption | omega | exact Nat.le_of_ble_eq_true rfl)

section
variable {P : Program} {w : World} {K : PySem.W.Frag} {mg : Str → Option Value} {base : Heap} {f : Addr} {fd : FuncData} {CG CB : Addr}
@[irreducible] def spLSide : PSp := fun ds z R _ => ∃ (l : List Nat) (al : List (List Nat)) (k : Nat), ds = [.lst (strsD al), .int (k : Int)] ∧ GOk l al ∧ R (.int (prodL (al.drop k))) z
abbrev s_side : Stmt := (top 25)
abbrev side.N : List Str := ["_law_signs_here", "_law_deep", "_law_found", "_law_one"]
abbrev side.ps : List Str := ["_law_signs_here", "_law_deep"]
theorem sc_side : FnScope side.N side.ps (defScope s_side) := ⟨rfl, rfl, rfl, by decide +kernel, rfl, by decide +kernel, by decide +kernel⟩
theorem ok_side (F : Fun K "_law_side" "_law_side" s_side f fd) (T : T14 mg) : FnG P w K mg base CX0 1 f fd side.ps (lift K spLSide) := by
  refine dbody F sc_side (fun ds z R RX h => ?_) fun cdv A outer s H E hr hg => ⟨_, (dss_cons (ds_set (i := 2) sc_side.nd rfl (Or.inl rfl) de_int)
      (dss_cons (ds_for PassesOwn.never rfl (di_any (de_slice sd_sl (dp_var 0) (do_some (de_var 1)) do_none)) (dg_name (i := 3) sc_side.nd rfl (Or.inl rfl)) (dss_one (ds_set (i := 2) sc_side.nd rfl (Or.inl rfl) (de_op od_mul (dp_var 2) (dp_of (de_fn cd_len (by rfl) T.b_len (by decide +kernel) (da_cons (dp_var 3) da_nil)))))))
      (dss_one (ds_ret (de_var 2))))), fun ds z R RX h => ?_⟩
  · unfold spLSide at h
    obtain ⟨l, al, k, rfl, _⟩ := h
    rfl
  · unfold spLSide at h
    obtain ⟨l, al, n, rfl, g, k⟩ := h
    walk_at "d"
    rw [cutL_from, show (strsD al).drop n = strsD (al.drop n) from List.map_drop.symm]
    refine forD_inv (fun i ρ z' => ∃ a, ρ = [.val (.lst (strsD al)), .val (.int n), .val (.int (prodL ((al.drop n).take i))), a] ∧ z' = z) ⟨.any, rfl, rfl⟩ ?_ ?_
    · rintro i d ρ z' hd ⟨a, rfl, rfl⟩
      unfold strsD at hd
      rw [List.getElem?_map] at hd
      obtain ⟨w, ew, rfl⟩ := Option.map_eq_some_iff.mp hd
      have hm : w ∈ al := List.mem_of_mem_drop (List.mem_of_getElem? ew)
      have hw := g.size hm
      obtain ⟨b1, b2⟩ := g.sub (ws := (al.drop n).take i) (fun a m => List.mem_of_mem_drop (List.mem_of_mem_take m)) (by rw [List.length_take, List.length_drop]; omega)
      walk_at "d"
      rw [S_len]
      refine ⟨Nat.le_trans hw.2 (by decide), mulw_s (by omega) (by omega) (by omega) (by omega), .val (.str (S w)), ?_⟩
      rw [take_snoc ew, prodL_snoc]
    · rintro ρ z' ⟨a, rfl, rfl⟩
      walk_at "d"
      rw [List.take_of_length_le (by rw [strsD_len]; exact Nat.le_refl _)]
      exact k
theorem use_lside {l : List Nat} {al : List (List Nat)} {i : Int} (n : Nat) {z : Z} {R : D → Z → Prop} {E : PX} (hi : i = (n : Int)) (g : GOk l al) (k : R (.int (prodL (al.drop n))) z) : spLSide [.lst (strsD al), .int i] z R E := by
  subst hi
  unfold spLSide
  exact ⟨l, al, n, rfl, g, k⟩
theorem cutL_take {α : Type} (xs : List α) (k : Nat) : cutL xs none (some (k : Int)) = xs.take k := by
  unfold cutL
  rw [HT.sIx_nat, HT.sIx_none, List.drop_zero, Nat.sub_zero]
  by_cases h : k ≤ xs.length
  · rw [Nat.min_eq_left h]
  · rw [Nat.min_eq_right (by omega), List.take_of_length_le (Nat.le_refl _), List.take_of_length_le (by omega)]
theorem rngD_get {lo : Int} {n i : Nat} {d : D} (h : (rngD lo n)[i]? = some d) : i < n ∧ d = .int (lo + i) := by
  unfold rngD at h
  rw [List.getElem?_map] at h
  obtain ⟨j, e0, rfl⟩ := Option.map_eq_some_iff.mp h
  have hi := lt_of_get e0
  rw [List.length_range] at hi
  rw [List.getElem?_range hi] at e0
  cases e0
  exact ⟨hi, rfl⟩
theorem rngD_len (lo : Int) (n : Nat) : (rngD lo n).length = n := by unfold rngD; rw [List.length_map, List.length_range]
end

end K14

set_option Elab.async false
set_option linter.all false
set_option maxRecDepth 100000
set_option maxHeartbeats 2000000
namespace K14
open PySem L2 Lay RZ SkE SX
/-! ### reading steps over trees -/
local macro_rules | `(tactic| walk_at "d") => `(tactic| try simp -implicitDefEqProofs only [cxK, noxK, wishK, startD, startI, List.map_cons, List.map_nil, List.length_cons, List.length_nil, List.length_singleton, Nat.zero_add, Nat.reduceAdd, Nat.reduceSub, Nat.add_one_sub_one, List.replicate_succ, List.replicate_zero, List.cons_append, List.nil_append, List.append_nil,
  ap_dVar, ap_dPeek, ap_dC, ap_dOp, ap_dTest, ap_dChain, ap_dTru, ap_dAndB, ap_dOrB, ap_dNotB, ap_dAnd, ap_dOr, ap_dNot, ap_dNil, ap_dCons, ap_dTup, ap_dLst, ap_dLet, ap_dSized, ap_dUn, ap_dNoPart, ap_dPart, ap_dSl, ap_dFn, ap_dMt, ap_dMt0, ap_dFs, ap_dFmt, ap_dJoin, ap_dNext, ap_dSeq, ap_dDrop, ap_dRet, ap_dIf, ap_dAsg, ap_dSet, ap_dOwn, ap_dAppend, ap_dAug, ap_dFldS, ap_dPar, ap_dPar3, ap_dIt, ap_dItA, ap_dFor, ap_dLc, ap_dYes, ap_dCall, ap_dCall0, ap_dCallKw, ap_dCallKw0, ap_dMeth, ap_dMeth0, ap_dMethKw, ap_dOne, ap_dFmtO, ap_dEqO, ap_dReqO, ap_dMake, ap_dMake0, ap_dMakeKw, ap_dMakeKw0, ap_dRaise, ap_dPair, ap_dCat, ex_obj1, ex_obj2, ex_ins1, ex_ins2, ex_str, ex_own, ex_val, ap_ix0, ap_ix1, ap_ix2, e_lenOk, e_isStr, le_sz0, le_sz1, le_sz2, le_sz3, le_sz4, le_sz5, le_sz6, le_sz7, le_sz8, ap_dIfE, ap_isD, ap_in1, ap_in2, ap_in3, ap_isi, ap_sum, ap_any, ap_dJs0, ap_dJs1, ap_dgName, ap_dgTup, ap_dgCons, ap_dgNil, ap_dTry, ap_dXf, e_tru1, e_tru2, e_tru3, e_tru4, e_tru5, e_tru6, e_tru7, e_fmtD1, e_fmtD2, e_iterD1, e_iterD2, e_iterD3, e_iterD4, e_addD1, e_addD2, e_addD3, e_addD4, e_subD1, e_mulD1, e_mulD2, e_mulD3, e_fdivD1, e_modD1, e_powD1, e_cmpD1, e_cmpD2, e_eqD1, e_eqD2, e_eqD3, e_eqD4, e_eqD5, e_eqD6, e_eqD7, e_eqD8, e_eqD9, e_eqD10, e_eqD11, e_eqD12, e_eqD13, e_eqD14, e_isNonD1, e_negD1, e_ixD1, e_ixD2, e_ixD3, e_ixD4, e_slD1, e_slD2, e_slD3, e_slD4, e_lenD1, e_lenD2, e_lenD3, e_lenD4, e_absD1, e_mmD1, e_intD1, e_intD2, e_intD3, e_strD1, e_strD2, e_tupleD1, e_tupleD2, e_tupleD3, e_listD1, e_listD2, e_listD3, e_splitD1, e_joinD1, e_joinD2, e_str1D1, e_iaddD1, e_iaddD2, e_imulD1, e_ifdivD1, e_enumD1, e_enumD2, e_zipF1, e_zipF2, e_rng11, e_rng21, e_rng31, e_fldD1, e_dixD1, e_dixD2, e_revSD1, e_catD1, ap_dTryK, ap_dSetX, kx_any, kx_val, kx_own, kx_exc, e_xfD, e_nonX, e_rngW, ap_dExtend, e_extD, ap_best, ap_dItR, e_revF1, e_revF2, e_revF3, ap_dTryN, ap_dRaiseU, ap_dSplitN, e_splitN, ap_dSetIx, e_setD, e_zipG, ap_dTupO, e_caseD, e_rngS, e_enumG, ap_dInO, ap_dPopSet, e_popD, ap_dAppPop, ap_dPairON, ap_dListN, e_listN1, e_listN2, e_listN3, e_listN4, e_isB, ap_dIsX, ap_dgLst, ap_dReprT, ap_dBoolO, ap_dEqG, e_shlD1, e_eqE, ap_dPar3O, ap_bestT, ap_dPar3E, e_kin, e_kix, e_index, ltD, leD, gtD, geD, minD, maxD, wipeD,
  List.set_cons_zero, List.set_cons_succ, List.getElem?_cons_zero, List.getElem?_cons_succ, List.length_set, if_true, if_false, Bool.false_eq_true, reduceIte, id, Bool.not_true, Bool.not_false, true_and, and_true, List.zip_cons_cons, List.zip_nil_right, List.zip_nil_left, reduceCtorEq, Option.some.injEq,
  Nat.reduceLT, Nat.reduceLeDiff, Nat.reduceEqDiff, and_self, ite_self, decide_true, decide_false, eq_self])
local macro_rules | `(tactic| walk_at "ds") => `(tactic| first | rfl | decide | assumption | omega | exact Nat.le_of_ble_eq_true rfl)

section
/-! ### references, plain: texts as lists of codes -/
def isFig (c : Nat) : Bool := decide (48 ≤ c) && decide (c ≤ 57)
/-- how many figures lead -/
def lead (t : List Nat) : Nat := (t.takeWhile isFig).length
/-- how many signs from a place on begin a sheet's number, and whether they are one -/
def numB (t : List Nat) (a : Nat) : Nat × Bool :=
  let m := if t[a]? = some 45 then 1 else 0
  match t[a + m]? with
  | none => (m, false)
  | some c => if isFig c = false then (m, false) else if c = 48 then (1, m == 0) else (m + min 9 (lead (t.drop (a + m))), true)
theorem figs_in (c : Nat) : decide (c ∈ figs) = isFig c := by
  unfold isFig figs
  rw [Bool.eq_iff_iff]
  simp
  omega
theorem cutS_nat (t : List Nat) (i j : Nat) : cutS (S t) (some (i : Int)) (some (j : Int)) = S ((t.drop i).take (j - i)) := by
  unfold cutS
  rw [HT.sIx_nat, HT.sIx_nat, S_len]
  show S ((t.drop (min i t.length)).take (min j t.length - min i t.length)) = _
  congr 1
  rcases Nat.lt_or_ge t.length i with h | h
  · rw [Nat.min_eq_right (show t.length ≤ i by omega), List.drop_eq_nil_of_le (Nat.le_refl _), List.drop_eq_nil_of_le (show t.length ≤ i by omega)]
    simp
  · rw [Nat.min_eq_left h]
    rcases Nat.lt_or_ge t.length j with h2 | h2
    · rw [Nat.min_eq_right (by omega), List.take_of_length_le (by rw [List.length_drop]; exact Nat.le_refl _), List.take_of_length_le (by rw [List.length_drop]; omega)]
    · rw [Nat.min_eq_left h2]
theorem cutS_from (t : List Nat) (i : Nat) : cutS (S t) (some (i : Int)) none = S (t.drop i) := by
  unfold cutS
  rw [HT.sIx_nat, HT.sIx_none, S_len]
  show S ((t.drop (min i t.length)).take (t.length - min i t.length)) = _
  rcases Nat.lt_or_ge t.length i with h | h
  · rw [Nat.min_eq_right (show t.length ≤ i by omega), List.drop_eq_nil_of_le (Nat.le_refl _), List.drop_eq_nil_of_le (show t.length ≤ i by omega)]
    simp
  · rw [Nat.min_eq_left h, List.take_of_length_le (by rw [List.length_drop]; exact Nat.le_refl _)]
theorem drop_one (t : List Nat) (i : Nat) : (t.drop i).take 1 = match t[i]? with | some c => [c] | none => [] := by
  cases h : t[i]? with
  | none =>
    rw [List.getElem?_eq_none_iff] at h
    rw [List.drop_eq_nil_of_le h]
    rfl
  | some c =>
    obtain ⟨hi, e⟩ := List.getElem?_eq_some_iff.mp h
    rw [List.drop_eq_getElem_cons hi, e]
    rfl
theorem lead_step {t : List Nat} {i j : Nat} (h : j ≤ lead (t.drop i)) : j < lead (t.drop i) ↔ ∃ c, t[i + j]? = some c ∧ isFig c = true := by
  rw [← List.getElem?_drop]
  generalize t.drop i = u at h
  unfold lead at h ⊢
  induction u generalizing j with
  | nil => simp at h; subst h; simp
  | cons c u ih =>
    rw [List.takeWhile_cons] at h ⊢
    by_cases hc : isFig c = true
    · rw [if_pos hc] at h ⊢
      cases j with
      | zero => simp [hc]
      | succ j =>
        rw [List.length_cons] at h ⊢
        rw [List.getElem?_cons_succ]
        have := ih (j := j) (by omega)
        rw [← this]
        omega
    · rw [if_neg hc] at h ⊢
      simp at h
      subst h
      simp [hc]
/-- the number that figures write, a stroke ahead or none -/
def valQ : List Nat → Int
  | 45 :: r => -(NumText.digitsVal r : Nat)
  | r => (NumText.digitsVal r : Nat)
theorem digs_lt : ∀ (cs : List Nat) (acc : Nat), NumText.AllDigits cs → cs.foldl (fun acc c => acc * 10 + (c - 48)) acc < (acc + 1) * 10 ^ cs.length
  | [], acc, _ => by simp
  | c :: cs, acc, h => by
    have hc := h c (List.mem_cons_self)
    have ih := digs_lt cs (acc * 10 + (c - 48)) fun x m => h x (List.mem_cons_of_mem _ m)
    rw [List.foldl_cons, List.length_cons, Nat.pow_succ]
    refine Nat.lt_of_lt_of_le ih ?_
    rw [Nat.mul_comm (10 ^ cs.length) 10, ← Nat.mul_assoc]
    exact Nat.mul_le_mul_right _ (by omega)
theorem digitsVal_lt {cs : List Nat} (h : NumText.AllDigits cs) (hl : cs.length ≤ 9) : NumText.digitsVal cs < 10 ^ 9 := by
  have := digs_lt cs 0 h
  unfold NumText.digitsVal
  refine Nat.lt_of_lt_of_le this ?_
  rw [Nat.zero_add, Nat.one_mul]
  exact Nat.pow_le_pow_right (by decide) hl
theorem lead_digits (t : List Nat) {k : Nat} (h : k ≤ lead t) : NumText.AllDigits (t.take k) ∧ (t.take k).length = k := by
  unfold lead at h
  have e : t.take k = (t.takeWhile isFig).take k := by
    have := List.takeWhile_append_dropWhile (p := isFig) (l := t)
    conv => lhs; rw [← this]
    rw [List.take_append_of_le_length h]
  rw [e]
  refine ⟨fun c m => ?_, by rw [List.length_take]; omega⟩
  have m2 := List.mem_of_mem_take m
  have : isFig c = true := by
    have all : ∀ c ∈ t.takeWhile isFig, isFig c = true := List.all_eq_true.mp List.all_takeWhile
    exact all c m2
  unfold isFig at this
  simp at this
  exact this
theorem lead_pos {t : List Nat} {c : Nat} {i : Nat} (e : t[i]? = some c) (h : isFig c = true) : 1 ≤ lead (t.drop i) := by
  have := (lead_step (t := t) (i := i) (j := 0) (Nat.zero_le _)).mpr ⟨c, by rw [Nat.add_zero]; exact e, h⟩
  omega
theorem val_ok {ds : List Nat} (h : NumText.AllDigits ds) (h0 : ds ≠ []) (hl : ds.length ≤ 9) :
    (intText? (S ds) = some (valQ ds) ∧ (valQ ds).natAbs < 2 ^ 40) ∧ intText? (S (45 :: ds)) = some (valQ (45 :: ds)) ∧ (valQ (45 :: ds)).natAbs < 2 ^ 40 := by
  have hv := digitsVal_lt h hl
  have e : valQ ds = (NumText.digitsVal ds : Nat) := by
    unfold valQ
    split
    · have := h 45 List.mem_cons_self
      omega
    · rfl
  refine ⟨⟨?_, by rw [e]; omega⟩, ?_, by show (-(NumText.digitsVal ds : Int)).natAbs < _; omega⟩
  · rw [e]
    exact intText_digits (x := S ds) h h0 (by rw [S_len]; omega)
  · exact intText_neg (x := S (45 :: ds)) (cs := ds) rfl h h0 (by rw [S_len, List.length_cons]; omega)
theorem numB_true {t : List Nat} {a : Nat} (h : (numB t a).2 = true) : intText? (S ((t.drop a).take (numB t a).1)) = some (valQ ((t.drop a).take (numB t a).1)) ∧ (numB t a).1 ≤ 10 ∧ (valQ ((t.drop a).take (numB t a).1)).natAbs < 2 ^ 40 := by
  revert h
  unfold numB
  by_cases hm : t[a]? = some 45
  · simp only [hm, if_pos]
    cases e : t[a + 1]? with
    | none => intro h; cases h
    | some c =>
      simp only
      by_cases hc : isFig c = false
      · rw [if_pos hc]; intro h; cases h
      rw [if_neg hc]
      by_cases h0 : c = 48
      · rw [if_pos h0]; intro h; cases h
      rw [if_neg h0]
      intro _
      have lp := lead_pos e (by simpa using hc)
      obtain ⟨d1, d2⟩ := lead_digits (t.drop (a + 1)) (k := min 9 (lead (t.drop (a + 1)))) (Nat.min_le_right _ _)
      have ec : (t.drop a).take (1 + min 9 (lead (t.drop (a + 1)))) = 45 :: (t.drop (a + 1)).take (min 9 (lead (t.drop (a + 1)))) := by
        obtain ⟨hi, e1⟩ := List.getElem?_eq_some_iff.mp hm
        rw [List.drop_eq_getElem_cons hi, e1, Nat.add_comm 1, List.take_succ_cons]
      rw [ec]
      have := (val_ok d1 (fun q => by rw [q] at d2; simp at d2; omega) (by rw [d2]; exact Nat.min_le_left _ _)).2
      exact ⟨this.1, by omega, this.2⟩
  · simp only [if_neg hm, Nat.add_zero, Nat.zero_add]
    cases e : t[a]? with
    | none => intro h; cases h
    | some c =>
      simp only
      by_cases hc : isFig c = false
      · rw [if_pos hc]; intro h; cases h
      rw [if_neg hc]
      by_cases h0 : c = 48
      · rw [if_pos h0]
        intro _
        have ec : (t.drop a).take 1 = [48] := by rw [drop_one, e, h0]
        rw [ec]
        have := (val_ok (ds := [48]) (fun c m => by rw [List.mem_singleton.mp m]; decide) (by simp) (by simp)).1
        exact ⟨this.1, by omega, this.2⟩
      rw [if_neg h0]
      intro _
      have lp := lead_pos e (by simpa using hc)
      obtain ⟨d1, d2⟩ := lead_digits (t.drop a) (k := min 9 (lead (t.drop a))) (Nat.min_le_right _ _)
      have := (val_ok d1 (fun q => by rw [q] at d2; simp at d2; omega) (by rw [d2]; exact Nat.min_le_left _ _)).1
      exact ⟨this.1, by omega, this.2⟩
def okS (al : List (List Nat)) (s : List Nat) (i : Nat) : Bool := decide (i / 2 < al.length) && decide ((s[i]?).getD 0 ∈ (al[i / 2]?).getD [])
/-- how many signs, from the first on, tell squares within squares -/
def sgB (al : List (List Nat)) (s : List Nat) : Nat := ((List.range s.length).takeWhile (okS al s)).length
theorem take_range (p : Nat → Bool) : ∀ (n i : Nat), i ≤ n → (∀ j < i, p j = true) → (i < n → p i = false) → ((List.range n).takeWhile p).length = i := by
  intro n i hi h1 h2
  have e : List.range n = List.range i ++ (List.range (n - i)).map (i + ·) := by
    rw [← List.range_add]; congr 1; omega
  rw [e, List.takeWhile_append_of_pos (by intro x m; exact h1 x (List.mem_range.mp m)), List.length_append, List.length_range]
  cases hk : n - i with
  | zero => simp
  | succ k =>
    rw [List.range_succ_eq_map, List.map_cons, List.takeWhile_cons, if_neg (by rw [Nat.add_zero, h2 (by omega)]; decide)]
    rfl
theorem sgB_is {al : List (List Nat)} {s : List Nat} {i : Nat} (hi : i ≤ s.length) (h1 : ∀ j < i, okS al s j = true) (h2 : i < s.length → okS al s i = false) : sgB al s = i := take_range _ _ _ hi h1 h2
theorem sgB_all {al : List (List Nat)} {s : List Nat} (h : s.length ≤ sgB al s) : ∀ j < s.length, okS al s j = true := by
  unfold sgB at h
  have e : (List.range s.length).takeWhile (okS al s) = List.range s.length := by
    have hp : (List.range s.length).takeWhile (okS al s) <+: List.range s.length := List.takeWhile_prefix _
    exact hp.eq_of_length (Nat.le_antisymm hp.length_le (by rw [List.length_range]; exact h))
  have all : ∀ c ∈ (List.range s.length).takeWhile (okS al s), okS al s c = true := List.all_eq_true.mp List.all_takeWhile
  intro j hj
  exact all j (by rw [e]; exact List.mem_range.mpr hj)
theorem sgB_le (al : List (List Nat)) (s : List Nat) : sgB al s ≤ s.length := by
  unfold sgB
  have := (List.takeWhile_prefix (p := okS al s) (l := List.range s.length)).length_le
  rwa [List.length_range] at this
/-- the numbers that signs lead to -/
def byQ (al : List (List Nat)) (s : List Nat) (e n : Int) : Nat → Int × Int
  | 0 => (e, n)
  | i + 1 =>
    let q := byQ al s e n i
    let a := (al[i]?).getD []
    (q.1 * a.length + (a.idxOf ((s[2 * i]?).getD 0) : Nat), q.2 * a.length + (a.idxOf ((s[2 * i + 1]?).getD 0) : Nat))
/-- what a text is read as: a square's level and numbers, or where it is refused -/
def readQ (al : List (List Nat)) (t : List Nat) : (Nat × Int × Int) ⊕ Nat :=
  let p := numB t 0
  if p.2 = false ∨ t[p.1]? ≠ some 47 then .inr p.1 else
  let q := numB t (p.1 + 1)
  let z := p.1 + 1 + q.1
  if q.2 = false ∨ ¬ (t[z]? = none ∨ t[z]? = some 32) then .inr z else
  let e := valQ (t.take p.1)
  let n := valQ ((t.drop (p.1 + 1)).take q.1)
  if z = t.length then .inl (0, e, n) else
  let s := t.drop (z + 1)
  let r := sgB al s
  if r < s.length ∨ r = 0 ∨ r % 2 ≠ 0 then .inr (z + 1 + r) else .inl (s.length / 2, byQ al s e n (s.length / 2))
/-- the first place of a text in a text -/
theorem occ_first {a b : List Nat} (hb : b ≠ []) {i : Nat} (h : TL.pre b (a.drop i) = true) (hmin : ∀ k < i, TL.pre b (a.drop k) = false) :
    ∃ rest, Builtin.Str.occurrences (S a) (S b) 0 (S a).length 1 = i :: rest := by
  have at_ : ∀ k, StrLaws.At (S a) (S b) (S a).length k ↔ TL.pre b (a.drop k) = true := fun k => TL.at_iff (x := S a) (y := S b) hb k
  rcases StrLaws.occ_head (S a) (S b) 1 (Nat.le_refl _) with ⟨_, h2⟩ | ⟨j, r, h1, h2, h3⟩
  · exact absurd ((at_ i).mpr h) (h2 i)
  · have : j = i := by
      rcases Nat.lt_trichotomy j i with q | q | q
      · have := hmin j q
        rw [(at_ j).mp h2] at this
        cases this
      · exact q
      · exact absurd ((at_ i).mpr h) (h3 i q)
    rw [h1, this]
    exact ⟨r, rfl⟩
theorem idx_first {a : List Nat} {c : Nat} (h : c ∈ a) : ∃ rest, Builtin.Str.occurrences (S a) (S [c]) 0 (S a).length 1 = a.idxOf c :: rest := by
  refine occ_first (by simp) ?_ fun k hk => ?_
  · unfold TL.pre
    have hi := List.idxOf_lt_length_of_mem h
    rw [show ([c] : List Nat).length = 1 from rfl, drop_one, List.getElem?_eq_getElem hi]
    simp
  · unfold TL.pre
    have hi := List.idxOf_lt_length_of_mem h
    have hk2 : k < a.length := by omega
    rw [show ([c] : List Nat).length = 1 from rfl, drop_one, List.getElem?_eq_getElem hk2]
    have := List.not_of_lt_findIdx (p := (· == c)) (xs := a) (i := k) hk
    simpa using this
theorem okS_at {al : List (List Nat)} {s : List Nat} {i : Nat} (h : okS al s i = true) (hi : i < s.length) : ∃ (hl : i / 2 < al.length), s[i] ∈ al[i / 2] := by
  unfold okS at h
  rw [Bool.and_eq_true, decide_eq_true_eq, decide_eq_true_eq, List.getElem?_eq_getElem hi] at h
  obtain ⟨h1, h2⟩ := h
  rw [List.getElem?_eq_getElem h1] at h2
  exact ⟨h1, h2⟩
theorem byQ_bd {l : List Nat} {al : List (List Nat)} {s : List Nat} {e n : Int} (g : GOk l al) (he : e.natAbs < 2 ^ 100) (hn : n.natAbs < 2 ^ 100) : ∀ i, i ≤ al.length → 2 * i ≤ s.length → (∀ j < 2 * i, okS al s j = true) → (byQ al s e n i).1.natAbs < 2 ^ (100 + 5 * i) ∧ (byQ al s e n i).2.natAbs < 2 ^ (100 + 5 * i)
  | 0, _, _, _ => ⟨he, hn⟩
  | i + 1, hi, hs, h => by
    obtain ⟨h1, h2⟩ := byQ_bd g he hn i (by omega) (by omega) fun j hj => h j (by omega)
    have hil : i < al.length := by omega
    have hsz := g.size (List.getElem_mem hil)
    obtain ⟨_, m1⟩ := okS_at (h (2 * i) (by omega)) (by omega)
    obtain ⟨_, m2⟩ := okS_at (h (2 * i + 1) (by omega)) (by omega)
    have d1 : 2 * i / 2 = i := by omega
    have d2 : (2 * i + 1) / 2 = i := by omega
    simp only [d1] at m1
    simp only [d2] at m2
    have i1 := List.idxOf_lt_length_of_mem m1
    have i2 := List.idxOf_lt_length_of_mem m2
    unfold byQ
    rw [List.getElem?_eq_getElem hil, List.getElem?_eq_getElem (show 2 * i < s.length by omega), List.getElem?_eq_getElem (show 2 * i + 1 < s.length by omega)]
    simp only [Option.getD_some]
    have st : ∀ (x : Int) (q : Nat), x.natAbs < 2 ^ (100 + 5 * i) → q < al[i].length → (x * (al[i].length : Nat) + (q : Nat)).natAbs < 2 ^ (100 + 5 * (i + 1)) := fun x q hx hq => by
      have e1 : 2 ^ (100 + 5 * (i + 1)) = 2 ^ (100 + 5 * i) * 32 := by rw [show 100 + 5 * (i + 1) = 100 + 5 * i + 5 by omega, Nat.pow_add]
      rw [e1]
      have e2 : (x * (al[i].length : Nat)).natAbs = x.natAbs * al[i].length := by rw [Int.natAbs_mul]; rfl
      have e3 : x.natAbs * al[i].length ≤ x.natAbs * 24 := Nat.mul_le_mul_left _ hsz.2
      omega
    exact ⟨st _ _ h1 i1, st _ _ h2 i2⟩
end

section
variable {P : Program} {w : World} {K : PySem.W.Frag} {mg : Str → Option Value} {base : Heap} {f : Addr} {fd : FuncData} {CG CB CE CS CQ CU CM CD CC CA CR CN : Addr}
theorem S_inj_iff {a b : List Nat} : S a = S b ↔ a = b := ⟨S_inj, fun h => by rw [h]⟩
@[irreducible] def spNumB : PSp := fun ds z R _ => ∃ (t : List Nat) (a : Nat), ds = [.str (S t), .int (a : Nat)] ∧ t.length ≤ 100000 ∧ a ≤ 100000 ∧ R (.tup [.int ((numB t a).1 : Nat), .bl (numB t a).2]) z
theorem spNumB_of  {ds : List D} {z : Z} {R : D → Z → Prop} {E : PX} (h_ : ∃ (t : List Nat) (a : Nat), ds = [.str (S t), .int (a : Nat)] ∧ t.length ≤ 100000 ∧ a ≤ 100000 ∧ R (.tup [.int ((numB t a).1 : Nat), .bl (numB t a).2]) z) : spNumB ds z R E := by unfold spNumB; exact h_
theorem spNumB_un  {ds : List D} {z : Z} {R : D → Z → Prop} {E : PX} (h_ : spNumB ds z R E) : ∃ (t : List Nat) (a : Nat), ds = [.str (S t), .int (a : Nat)] ∧ t.length ≤ 100000 ∧ a ≤ 100000 ∧ R (.tup [.int ((numB t a).1 : Nat), .bl (numB t a).2]) z := by unfold spNumB at h_; exact h_
abbrev s_number_begun : Stmt := (top 17)
abbrev number_begun.N : List Str := ["text", "at", "start", "first", "end"]
abbrev number_begun.ps : List Str := ["text", "at"]
theorem sc_number_begun : FnScope number_begun.N number_begun.ps (defScope s_number_begun) := ⟨rfl, rfl, rfl, by decide +kernel, rfl, by decide +kernel, by decide +kernel⟩
theorem ok_number_begun (F : Fun K "number_begun" "number_begun" s_number_begun f fd) (T : T14 mg) : FnG P w K mg base CX0 1 f fd number_begun.ps (lift K spNumB) := by
  refine dbody F sc_number_begun (fun ds z R RX h => ?_) fun cdv A outer s H E hr hg => ⟨_, (dss_cons (ds_set (i := 2) sc_number_begun.nd rfl (Or.inl rfl) (de_op od_add (dp_var 1) (dp_of (de_ty cd_int (by rfl) T.b_int (by decide +kernel) (da_cons (dp_of (de_cmp (od_eq hr.units) (dp_of (de_slice sd_sl (dp_var 0) (do_some (de_var 1)) (do_some (de_op od_add (dp_var 1) (dp_of de_int))))) (dp_of de_str) (nomark _))) da_nil)))))
      (dss_cons (ds_set (i := 3) sc_number_begun.nd rfl (Or.inl rfl) (de_slice sd_sl (dp_var 0) (do_some (de_var 2)) (do_some (de_op od_add (dp_var 2) (dp_of de_int)))))
      (dss_cons (ds_if (DWt.pt (dw_or (dt_cmp (od_eq hr.units) (dp_var 3) (dp_of de_str) (nomark _)) (dw_or1 (dt_cmp od_notIn (dp_var 3) (dp_of (de_c (pe_globS rfl T.g_FIGURE_SIGNS) (fun _ _ => Rep.s))) (by rfl))))) (dss_one (ds_ret (de_tup (das_cons (de_op od_sub (dp_var 2) (dp_var 1)) (das_cons de_bl das_nil))))) dss_nil)
      (dss_cons (ds_if (dt_cmp (od_eq hr.units) (dp_var 3) (dp_of de_str) (nomark _)) (dss_one (ds_ret (de_tup (das_cons de_int (das_cons (de_cmp (od_eq hr.units) (dp_var 2) (dp_var 1) (nomark _)) das_nil))))) dss_nil)
      (dss_cons (ds_set (i := 4) sc_number_begun.nd rfl (Or.inl rfl) (de_op od_add (dp_var 2) (dp_of de_int)))
      (dss_cons (ds_while PassesOwn.never (DWt.pt (dw_and (dt_cmp od_lt (dp_var 4) (dp_of (de_fn cd_len (by rfl) T.b_len (by decide +kernel) (da_cons (dp_var 0) da_nil))) (nomark _)) (dw_and (dt_cmp od_lt (dp_of (de_op od_sub (dp_var 4) (dp_var 2))) (dp_of (de_c (pe_globI rfl T.g_MOST_FIGURES) (fun _ _ => Rep.i))) (nomark _)) (dw_and1 (dt_cmp od_in (dp_of (de_ix od_ix (dp_var 0) (dp_var 4) (fun _ _ => rfl))) (dp_of (de_c (pe_globS rfl T.g_FIGURE_SIGNS) (fun _ _ => Rep.s))) (by rfl)))))) (dss_one (ds_aug (i := 4) sc_number_begun.nd rfl (Or.inl rfl) (dp_of de_int) id_add)))
      (dss_one (ds_ret (de_tup (das_cons (de_op od_sub (dp_var 4) (dp_var 1)) (das_cons de_bl das_nil))))))))))), fun ds z R RX h => ?_⟩
  · obtain ⟨t, a, rfl, _⟩ := spNumB_un h
    rfl
  · obtain ⟨t, a, rfl, ht, ha, k⟩ := spNumB_un h
    have hz : (100000 : Nat) ≤ sizeLine := by decide
    have sl : ∀ i : Nat, cutS (S t) (some (i : Int)) (some ((i : Int) + 1)) = S ((t.drop i).take 1) := fun i => by
      rw [show (i : Int) + 1 = ((i + 1 : Nat) : Int) by omega, cutS_nat, Nat.add_sub_cancel_left]
    have em : decide (cutS (S t) (some (a : Int)) (some ((a : Int) + 1)) = Str.ofString "-") = decide (t[a]? = some 45) := by
      rw [sl, drop_one, show Str.ofString "-" = S [45] by decide +kernel]
      cases t[a]? with
      | none => simp [S_inj_iff]
      | some c => simp [S_inj_iff]
    have eF : Str.ofString "0123456789" = S figs := by decide +kernel
    have e0 : Str.ofString "0" = S [48] := by decide +kernel
    have ee : Str.ofString "" = S [] := by decide +kernel
    unfold numB at k
    walk_at "d"
    rw [em, eF, e0, ee]
    have hlt : (S t).length ≤ sizeLine := by rw [S_len]; omega
    refine ⟨hlt, hlt, ?_⟩
    have em2 : ∃ m : Nat, m ≤ 1 ∧ (if t[a]? = some 45 then 1 else 0) = m ∧ (if decide (t[a]? = some 45) = true then (1 : Int) else 0) = (m : Int) := by
      by_cases hm : t[a]? = some 45
      · exact ⟨1, by decide, by rw [if_pos hm], by rw [if_pos (by rw [hm]; rfl)]; rfl⟩
      · exact ⟨0, by decide, by rw [if_neg hm], by rw [if_neg (by rw [decide_eq_true_eq]; exact hm)]; rfl⟩
    obtain ⟨m, hm1, hm2, hm3⟩ := em2
    rw [hm3]
    simp only [hm2] at k
    rw [show (a : Int) + (m : Int) = ((a + m : Nat) : Int) by omega, sl, drop_one]
    cases e : t[a + m]? with
    | none =>
      rw [e] at k
      simp only at k ⊢
      rw [if_pos (show decide True = true by decide)]
      rw [show ((a + m : Nat) : Int) - a = (m : Int) by omega]
      exact k
    | some c =>
      rw [e] at k
      simp only at k ⊢
      rw [if_neg (by rw [decide_eq_true_eq, S_inj_iff]; simp), SX.in_one, figs_in]
      have hs : a + m < t.length := (List.getElem?_eq_some_iff.mp e).1
      cases hc : isFig c with
      | false =>
        rw [if_pos (show (!false) = true from rfl), show ((a + m : Nat) : Int) - a = (m : Int) by omega]
        rw [hc, if_pos rfl] at k
        exact k
      | true =>
      rw [if_neg (show ¬ (!true) = true by decide)]
      rw [hc, if_neg (by decide)] at k
      by_cases h0 : c = 48
      · rw [if_pos (show decide (S [c] = S [48]) = true by rw [h0]; exact decide_eq_true rfl)]
        rw [if_pos h0] at k
        have : decide (((a + m : Nat) : Int) = (a : Int)) = (m == 0) := by
          rw [Bool.eq_iff_iff, decide_eq_true_eq, beq_iff_eq]; omega
        rw [this]
        exact k
      rw [if_neg (show ¬ decide (S [c] = S [48]) = true by rw [decide_eq_true_eq, S_inj_iff]; simpa using h0)]
      rw [if_neg h0] at k
      have lp := lead_pos e hc
      generalize hL : lead (t.drop (a + m)) = L at k lp
      have hst : ∀ j, j ≤ L → (j < L ↔ ∃ c, t[a + m + j]? = some c ∧ isFig c = true) := fun j hj => by
        have := lead_step (t := t) (i := a + m) (j := j) (by rw [hL]; exact hj)
        rw [hL] at this
        exact this
      refine ⟨fun q ρ' z' => ∃ j : Nat, ρ' = [.val (.str (S t)), .val (.int (a : Nat)), .val (.int ((a + m : Nat) : Int)), .val (.str (S [c])), .val (.int (((a + m : Nat) : Int) + j))] ∧ z' = z ∧ 1 ≤ j ∧ j ≤ 9 ∧ j ≤ L ∧ q = 9 - j, ⟨_, 1, rfl, rfl, by omega, by omega, lp, rfl⟩, ?_⟩
      rintro q ρ' z' ⟨j, rfl, rfl, hj1, hj9, hjL, rfl⟩
      walk_at "d"
      rw [S_len]
      have go : ∀ j : Nat, j = min 9 L → R (.tup [.int (((a + m : Nat) : Int) + j - a), .bl true]) z' := fun j hj => by
        rw [show ((a + m : Nat) : Int) + j - a = ((m + j : Nat) : Int) by omega, hj]
        exact k
      refine ⟨by omega, iteD (fun hlen => iteD (fun h9 => ?_) (fun h9 => go j (by omega))) (fun hlen => ?_)⟩
      · have hj : a + m + j < t.length := by omega
        refine ⟨by omega, t[a + m + j], ?_, ?_⟩
        · rw [show ((a + m : Nat) : Int) + j = ((a + m + j : Nat) : Int) by omega]
          exact atI_nat (List.getElem?_eq_getElem hj)
        rw [show (⟨#[t[a + m + j]]⟩ : Str) = S [t[a + m + j]] from rfl, SX.in_one, figs_in]
        have q := hst j hjL
        cases hf : isFig t[a + m + j] with
        | true =>
          rw [if_pos rfl]
          have hlt : j < L := q.mpr ⟨_, List.getElem?_eq_getElem hj, hf⟩
          refine ⟨fun ρ2 z2 => ρ2 = [.val (.str (S t)), .val (.int (a : Nat)), .val (.int ((a + m : Nat) : Int)), .val (.str (S [c])), .val (.int (((a + m : Nat) : Int) + j + 1))] ∧ z2 = z', ?_, ⟨rfl, rfl⟩⟩
          rintro ρ2 z2 ⟨rfl, rfl⟩
          exact ⟨9 - (j + 1), by omega, j + 1, by rw [show ((a + m : Nat) : Int) + ((j + 1 : Nat) : Int) = ((a + m : Nat) : Int) + j + 1 by omega], rfl, by omega, by omega, by omega, rfl⟩
        | false =>
          rw [if_neg (by decide)]
          have hnl : ¬ j < L := fun hh => by
            obtain ⟨c', e1, e2⟩ := q.mp hh
            rw [List.getElem?_eq_getElem hj] at e1
            cases e1
            rw [hf] at e2; cases e2
          exact go j (by omega)
      · have q := hst j hjL
        have hnl : ¬ j < L := fun hh => by
          obtain ⟨c', e1, e2⟩ := q.mp hh
          have := (List.getElem?_eq_some_iff.mp e1).1
          omega
        exact go j (by omega)
@[irreducible] def spSgB (CG : Addr) : PSp := fun ds z R _ => ∃ (l : List Nat) (al : List (List Nat)) (s : List Nat), ds = [gridD CG l al, .str (S s)] ∧ GOk l al ∧ s.length ≤ 100000 ∧ R (.int (sgB al s : Nat)) z
theorem spSgB_of {CG : Addr} {ds : List D} {z : Z} {R : D → Z → Prop} {E : PX} (h_ : ∃ (l : List Nat) (al : List (List Nat)) (s : List Nat), ds = [gridD CG l al, .str (S s)] ∧ GOk l al ∧ s.length ≤ 100000 ∧ R (.int (sgB al s : Nat)) z) : spSgB CG ds z R E := by unfold spSgB; exact h_
theorem spSgB_un {CG : Addr} {ds : List D} {z : Z} {R : D → Z → Prop} {E : PX} (h_ : spSgB CG ds z R E) : ∃ (l : List Nat) (al : List (List Nat)) (s : List Nat), ds = [gridD CG l al, .str (S s)] ∧ GOk l al ∧ s.length ≤ 100000 ∧ R (.int (sgB al s : Nat)) z := by unfold spSgB at h_; exact h_
abbrev s_signs_begun : Stmt := (top 18)
abbrev signs_begun.N : List Str := ["grid", "signs", "at", "sign", "level"]
abbrev signs_begun.ps : List Str := ["grid", "signs"]
theorem sc_signs_begun : FnScope signs_begun.N signs_begun.ps (defScope s_signs_begun) := ⟨rfl, rfl, rfl, by decide +kernel, rfl, by decide +kernel, by decide +kernel⟩
theorem ok_signs_begun (F : Fun K "signs_begun" "signs_begun" s_signs_begun f fd) (T : T14 mg) (GF : GridFn P w K mg base CG CB) : FnG P w K mg base CX0 3 f fd signs_begun.ps (lift K (spSgB CG)) := by
  obtain ⟨O_Grid, G_Grid, N_Grid, R_Grid, W_Grid, I_Grid, C_Grid, C_Grid_eq, C_Grid_len, C_Grid_str, C_Grid_repr, C_Grid_alphabet, C_Grid_cut, C_Grid_side⟩ := GF
  refine dbody F sc_signs_begun (fun ds z R RX h => ?_) fun cdv A outer s H E hr hg => ⟨_, (dss_cons (ds_for PassesOwn.never rfl (di_enumG (by rfl) T.b_enumerate (das_cons (de_var 1) das_nil)) (dg_tup (n := 2) rfl (dgs_cons (dg_name (i := 2) sc_signs_begun.nd rfl (Or.inl rfl)) (dgs_cons (dg_name (i := 3) sc_signs_begun.nd rfl (Or.inl rfl)) dgs_nil))) (dss_cons (ds_set (i := 4) sc_signs_begun.nd rfl (Or.inl rfl) (de_op od_add (dp_of (de_op od_fdiv (dp_var 2) (dp_of de_int))) (dp_of de_int)))
      (dss_one (ds_if (DWt.pt (dw_or (dt_cmp od_gt (dp_var 4) (dp_of (C_Grid_len.dLen hr hg rfl T.b_len (de_var 0))) (nomark _)) (dw_or1 (dt_cmp od_notIn (dp_var 3) (dp_of (C_Grid_alphabet.d0 (de_var 0) hr hg (atAll pass0) (das_cons (de_var 4) das_nil))) (by rfl))))) (dss_one (ds_ret (de_var 2))) dss_nil))))
      (dss_one (ds_ret (de_fn cd_len (by rfl) T.b_len (by decide +kernel) (da_cons (dp_var 1) da_nil))))), fun ds z R RX h => ?_⟩
  · obtain ⟨l, al, s, rfl, _⟩ := spSgB_un h
    rfl
  · obtain ⟨l, al, s, rfl, g, hs, k⟩ := spSgB_un h
    have hm := g.many
    walk_at "d"
    refine forD_inv (fun i ρ z' => (∃ a2 a3 a4, ρ = [.val (gridD CG l al), .val (.str (S s)), a2, a3, a4]) ∧ z' = z ∧ ∀ j < i, okS al s j = true) ⟨⟨_, _, _, rfl⟩, rfl, fun j h => absurd h (Nat.not_lt_zero _)⟩ ?_ ?_
    · rintro i d ρ z' hdi ⟨⟨a2, a3, a4, rfl⟩, rfl, hall⟩
      rw [List.getElem?_mapIdx] at hdi
      obtain ⟨d0, e0, rfl⟩ := Option.map_eq_some_iff.mp hdi
      unfold signsD at e0
      rw [List.getElem?_map] at e0
      obtain ⟨c, ec, rfl⟩ := Option.map_eq_some_iff.mp e0
      have ec2 : s[i]? = some c := ec
      have hi : i < s.length := (List.getElem?_eq_some_iff.mp ec2).1
      walk_at "d"
      have hd2 : (i : Int) / 2 = ((i / 2 : Nat) : Int) := by omega
      rw [if_pos (show (0 : Int) < 2 by decide), hd2]
      refine ⟨by decide, gridD_ins _ _ _, use_GLen ?_⟩
      walk_at "d"
      refine ⟨⟨by omega, by omega⟩, ?_⟩
      have ret : okS al s i = false → R (.int (i : Nat)) z' := fun h => by
        have := sgB_is (by omega) hall (fun _ => h)
        rw [this] at k
        exact k
      refine iteD (fun hgt => ret (by unfold okS; rw [decide_eq_false (by omega)]; rfl)) (fun hgt => ?_)
      have hlv : i / 2 < al.length := by omega
      refine ⟨meth_G (by decide), use_alphabet (i / 2) rfl (List.getElem?_eq_getElem hlv) ?_⟩
      walk_at "d"
      rw [show (⟨#[c]⟩ : Str) = S [c] from rfl, SX.in_one]
      have eo : okS al s i = decide (c ∈ al[i / 2]) := by
        unfold okS
        rw [decide_eq_true hlv, ec2, List.getElem?_eq_getElem hlv]
        rfl
      cases hc : decide (c ∈ al[i / 2]) with
      | false => exact ret (by rw [eo, hc])
      | true =>
        rw [if_neg (by decide)]
        refine ⟨⟨_, _, _, rfl⟩, fun j hj => ?_⟩
        rcases Nat.lt_succ_iff_lt_or_eq.mp hj with q | q
        · exact hall j q
        · rw [q, eo, hc]
    · rintro ρ z' ⟨⟨a2, a3, a4, rfl⟩, rfl, hall⟩
      walk_at "d"
      have hl : (List.mapIdx (fun i d => D.tup [D.int (i : Nat), d]) (signsD (S s))).length = s.length := by rw [List.length_mapIdx]; unfold signsD; rw [List.length_map]
      rw [hl] at hall
      rw [sgB_is (Nat.le_refl _) hall (fun h => absurd h (Nat.lt_irrefl _))] at k
      rw [S_len]
      exact ⟨Nat.le_trans hs (by decide), k⟩
end

end K14

set_option Elab.async false
set_option linter.all false
set_option maxRecDepth 100000
set_option maxHeartbeats 2000000
namespace K14
open PySem L2 Lay RZ SkE SX
/-! ### reading steps over trees -/
local macro_rules | `(tactic| walk_at "d") => `(tactic| try simp -implicitDefEqProofs only [cxK, noxK, wishK, startD, startI, List.map_cons, List.map_nil, List.length_cons, List.length_nil, List.length_singleton, Nat.zero_add, Nat.reduceAdd, Nat.reduceSub, Nat.add_one_sub_one, List.replicate_succ, List.replicate_zero, List.cons_append, List.nil_append, List.append_nil,
  ap_dVar, ap_dPeek, ap_dC, ap_dOp, ap_dTest, ap_dChain, ap_dTru, ap_dAndB, ap_dOrB, ap_dNotB, ap_dAnd, ap_dOr, ap_dNot, ap_dNil, ap_dCons, ap_dTup, ap_dLst, ap_dLet, ap_dSized, ap_dUn, ap_dNoPart, ap_dPart, ap_dSl, ap_dFn, ap_dMt, ap_dMt0, ap_dFs, ap_dFmt, ap_dJoin, ap_dNext, ap_dSeq, ap_dDrop, ap_dRet, ap_dIf, ap_dAsg, ap_dSet, ap_dOwn, ap_dAppend, ap_dAug, ap_dFldS, ap_dPar, ap_dPar3, ap_dIt, ap_dItA, ap_dFor, ap_dLc, ap_dYes, ap_dCall, ap_dCall0, ap_dCallKw, ap_dCallKw0, ap_dMeth, ap_dMeth0, ap_dMethKw, ap_dOne, ap_dFmtO, ap_dEqO, ap_dReqO, ap_dMake, ap_dMake0, ap_dMakeKw, ap_dMakeKw0, ap_dRaise, ap_dPair, ap_dCat, ex_obj1, ex_obj2, ex_ins1, ex_ins2, ex_str, ex_own, ex_val, ap_ix0, ap_ix1, ap_ix2, e_lenOk, e_isStr, le_sz0, le_sz1, le_sz2, le_sz3, le_sz4, le_sz5, le_sz6, le_sz7, le_sz8, ap_dIfE, ap_isD, ap_in1, ap_in2, ap_in3, ap_isi, ap_sum, ap_any, ap_dJs0, ap_dJs1, ap_dgName, ap_dgTup, ap_dgCons, ap_dgNil, ap_dTry, ap_dXf, e_tru1, e_tru2, e_tru3, e_tru4, e_tru5, e_tru6, e_tru7, e_fmtD1, e_fmtD2, e_iterD1, e_iterD2, e_iterD3, e_iterD4, e_addD1, e_addD2, e_addD3, e_addD4, e_subD1, e_mulD1, e_mulD2, e_mulD3, e_fdivD1, e_modD1, e_powD1, e_cmpD1, e_cmpD2, e_eqD1, e_eqD2, e_eqD3, e_eqD4, e_eqD5, e_eqD6, e_eqD7, e_eqD8, e_eqD9, e_eqD10, e_eqD11, e_eqD12, e_eqD13, e_eqD14, e_isNonD1, e_negD1, e_ixD1, e_ixD2, e_ixD3, e_ixD4, e_slD1, e_slD2, e_slD3, e_slD4, e_lenD1, e_lenD2, e_lenD3, e_lenD4, e_absD1, e_mmD1, e_intD1, e_intD2, e_intD3, e_strD1, e_strD2, e_tupleD1, e_tupleD2, e_tupleD3, e_listD1, e_listD2, e_listD3, e_splitD1, e_joinD1, e_joinD2, e_str1D1, e_iaddD1, e_iaddD2, e_imulD1, e_ifdivD1, e_enumD1, e_enumD2, e_zipF1, e_zipF2, e_rng11, e_rng21, e_rng31, e_fldD1, e_dixD1, e_dixD2, e_revSD1, e_catD1, ap_dTryK, ap_dSetX, kx_any, kx_val, kx_own, kx_exc, e_xfD, e_nonX, e_rngW, ap_dExtend, e_extD, ap_best, ap_dItR, e_revF1, e_revF2, e_revF3, ap_dTryN, ap_dRaiseU, ap_dSplitN, e_splitN, ap_dSetIx, e_setD, e_zipG, ap_dTupO, e_caseD, e_rngS, e_enumG, ap_dInO, ap_dPopSet, e_popD, ap_dAppPop, ap_dPairON, ap_dListN, e_listN1, e_listN2, e_listN3, e_listN4, e_isB, ap_dIsX, ap_dgLst, ap_dReprT, ap_dBoolO, ap_dEqG, e_shlD1, e_eqE, ap_dPar3O, ap_bestT, ap_dPar3E, e_kin, e_kix, e_index, ltD, leD, gtD, geD, minD, maxD, wipeD,
  List.set_cons_zero, List.set_cons_succ, List.getElem?_cons_zero, List.getElem?_cons_succ, List.length_set, if_true, if_false, Bool.false_eq_true, reduceIte, id, Bool.not_true, Bool.not_false, true_and, and_true, List.zip_cons_cons, List.zip_nil_right, List.zip_nil_left, reduceCtorEq, Option.some.injEq,
  Nat.reduceLT, Nat.reduceLeDiff, Nat.reduceEqDiff, and_self, ite_self, decide_true, decide_false, eq_self])
local macro_rules | `(tactic| walk_at "ds") => `(tactic| first | rfl | decide | assumption | omega | exact Nat.le_of_ble_eq_true rfl)

section
variable {P : Program} {w : World} {K : PySem.W.Frag} {mg : Str → Option Value} {base : Heap} {f : Addr} {fd : FuncData} {CG CB CE CS CQ CU CM CD CC CA CR CN CF : Addr}
theorem heap_two {H : Hp} {a d : Addr} {o1 o2 o3 : HO} (n : d ≠ a) : upd (upd (upd H d o1) a o2) d o3 = upd (upd H d o3) a o2 := by
  funext b
  by_cases hb : b = d
  · subst hb; rw [upd_same, upd_ne n, upd_same]
  · rw [upd_ne hb]
    by_cases hba : b = a
    · subst hba; rw [upd_same, upd_same]
    · rw [upd_ne hba, upd_ne hb, upd_ne hba, upd_ne hb]
abbrev s_NoReference_init : Stmt := (inClass (top 5) 0)
abbrev NoReference_init.N : List Str := ["self", "text", "at"]
abbrev NoReference_init.ps : List Str := ["self", "text", "at"]
theorem sc_NoReference_init : FnScope NoReference_init.N NoReference_init.ps (defScope s_NoReference_init) := ⟨rfl, rfl, rfl, by decide +kernel, rfl, by decide +kernel, by decide +kernel⟩
theorem ok_NoReference_init (F : Fun K "__init__" "NoReference.__init__" s_NoReference_init f fd) (O : OexC K CF) (hno : PySem.W.findIn K (.ref CF) "text" = some none) (hno2 : PySem.W.findIn K (.ref CF) "at" = some none) (B_GridError : GBase K mg "GridError" CE) :
    FnOk P w K mg base CX0 1 f fd NoReference_init.ps (spX CF ["text", "at"]) := by
  refine F.ok sc_NoReference_init (fun vs H Q E h => ?_) (fun cdv A outer s H vs Q E hr h => ?_)
  · obtain ⟨a, ws, rfl, hl, _⟩ := h
    match ws, hl with
    | [_, _], _ => rfl
  · obtain ⟨a, ws, rfl, hl, ha, k⟩ := h
    match ws, hl with
    | [v, v2], _ =>
      refine ⟨_, (pss_cons (ps_expr (pe_ginit rfl B_GridError.mgx B_GridError.sg B_GridError.rd B_GridError.vV (pa_cons (pv 0) (pa_cons pe_str pa_nil))))
      (pss_cons (ps_ost (pv 0) (pv 1) rfl)
      (pss_one (ps_ost (pv 0) (pv 2) rfl)))), ?_⟩
      refine ⟨_, rfl, a, CF, _, rfl, by decide, O, ha, ?_⟩
      refine ⟨_, rfl, _, rfl, a, CF, rfl, O, hno, .inl ⟨ha, fun dx hd n => ?_⟩⟩
      refine ⟨_, rfl, _, rfl, a, CF, rfl, O, hno2, .inr ⟨dx, [("text", v)], upd_same, by rw [upd_ne n, upd_same], by show 1 ≤ 900; decide, ?_⟩⟩
      have := k dx hd n
      rw [heap_two n]
      exact this
@[irreducible] def spSqBy (CS CG : Addr) : PSp := fun ds z R _ => ∃ (l : List Nat) (al : List (List Nat)) (e n : Int) (s : List Nat) (lev : Nat), ds = [gridD CG l al, .int e, .int n, .str (S s)] ∧ GOk l al ∧ s.length = 2 * lev ∧ lev ≤ al.length ∧ (∀ j < s.length, okS al s j = true) ∧ e.natAbs < 2 ^ 100 ∧ n.natAbs < 2 ^ 100 ∧
  R (sqD CS CG l al lev (byQ al s e n lev).1 (byQ al s e n lev).2) z
theorem spSqBy_of {CS CG : Addr} {ds : List D} {z : Z} {R : D → Z → Prop} {E : PX} (h_ : ∃ (l : List Nat) (al : List (List Nat)) (e n : Int) (s : List Nat) (lev : Nat), ds = [gridD CG l al, .int e, .int n, .str (S s)] ∧ GOk l al ∧ s.length = 2 * lev ∧ lev ≤ al.length ∧ (∀ j < s.length, okS al s j = true) ∧ e.natAbs < 2 ^ 100 ∧ n.natAbs < 2 ^ 100 ∧
  R (sqD CS CG l al lev (byQ al s e n lev).1 (byQ al s e n lev).2) z) : spSqBy CS CG ds z R E := by unfold spSqBy; exact h_
theorem spSqBy_un {CS CG : Addr} {ds : List D} {z : Z} {R : D → Z → Prop} {E : PX} (h_ : spSqBy CS CG ds z R E) : ∃ (l : List Nat) (al : List (List Nat)) (e n : Int) (s : List Nat) (lev : Nat), ds = [gridD CG l al, .int e, .int n, .str (S s)] ∧ GOk l al ∧ s.length = 2 * lev ∧ lev ≤ al.length ∧ (∀ j < s.length, okS al s j = true) ∧ e.natAbs < 2 ^ 100 ∧ n.natAbs < 2 ^ 100 ∧
  R (sqD CS CG l al lev (byQ al s e n lev).1 (byQ al s e n lev).2) z := by unfold spSqBy at h_; exact h_
abbrev s_square_by : Stmt := (top 19)
abbrev square_by.N : List Str := ["grid", "east", "north", "signs", "at", "alphabet"]
abbrev square_by.ps : List Str := ["grid", "east", "north", "signs"]
theorem sc_square_by : FnScope square_by.N square_by.ps (defScope s_square_by) := ⟨rfl, rfl, rfl, by decide +kernel, rfl, by decide +kernel, by decide +kernel⟩
theorem ok_square_by (F : Fun K "square_by" "square_by" s_square_by f fd) (T : T14 mg) (GF : GridFn P w K mg base CG CB) (C_Square : Maker P w K mg base (L2.CX P w) 4 "Square" CS (dR s_Square_init "__init__" "Square.__init__" K) Square_init.ps (liftI K CS (spSquare K CG CQ))) :
    FnG P w K mg base (L2.CX P w) 6 f fd square_by.ps (lift K (spSqBy CS CG)) := by
  obtain ⟨O_Grid, G_Grid, N_Grid, R_Grid, W_Grid, I_Grid, C_Grid, C_Grid_eq, C_Grid_len, C_Grid_str, C_Grid_repr, C_Grid_alphabet, C_Grid_cut, C_Grid_side⟩ := GF
  refine dbodyX F sc_square_by (fun ds z R RX h => ?_) fun cdv A outer s H E hr hg => ⟨_, (dss_cons (ds_for (passes_of rfl) rfl (di_rangeS rfl T.b_range (da_cons (dp_of de_int) (da_cons (dp_of (de_fn cd_len (by rfl) T.b_len (by decide +kernel) (da_cons (dp_var 3) da_nil))) (da_cons (dp_of de_int) da_nil)))) (dg_name (i := 4) sc_square_by.nd rfl (Or.inl rfl)) (dss_cons (ds_set (i := 5) sc_square_by.nd rfl (Or.inl rfl) (C_Grid_alphabet.d0 (de_var 0) hr hg (atAll pass0) (das_cons (de_op od_add (dp_of (de_op od_fdiv (dp_var 4) (dp_of de_int))) (dp_of de_int)) das_nil)))
      (dss_cons (ds_set (i := 1) sc_square_by.nd rfl (Or.inl rfl) (de_op od_add (dp_of (de_op od_mul (dp_var 1) (dp_of (de_fn cd_len (by rfl) T.b_len (by decide +kernel) (da_cons (dp_var 5) da_nil))))) (dp_of (de_mt PySem.F.slot_str_index PySem.F.type_str_index md_index (dp_var 5) (da_cons (dp_of (de_ix od_ix (dp_var 3) (dp_var 4) (fun _ _ => rfl))) da_nil)))))
      (dss_one (ds_set (i := 2) sc_square_by.nd rfl (Or.inl rfl) (de_op od_add (dp_of (de_op od_mul (dp_var 2) (dp_of (de_fn cd_len (by rfl) T.b_len (by decide +kernel) (da_cons (dp_var 5) da_nil))))) (dp_of (de_mt PySem.F.slot_str_index PySem.F.type_str_index md_index (dp_var 5) (da_cons (dp_of (de_ix od_ix (dp_var 3) (dp_of (de_op od_add (dp_var 4) (dp_of de_int))) (fun _ _ => rfl))) da_nil)))))))))
      (dss_one (ds_ret (C_Square.dE rfl hr hg (fun σ => passAt (takes_of rfl rfl rfl rfl) σ) (das_cons (de_var 0) (das_cons (de_op od_fdiv (dp_of (de_fn cd_len (by rfl) T.b_len (by decide +kernel) (da_cons (dp_var 3) da_nil))) (dp_of de_int)) (das_cons (de_var 1) (das_cons (de_var 2) das_nil)))))))), fun ds z R RX h => ?_⟩
  · obtain ⟨l, al, e, n, s, lev, rfl, _⟩ := spSqBy_un h
    rfl
  · obtain ⟨l, al, e, n, s, lev, rfl, g, hs, hlev, hok, he, hn, k⟩ := spSqBy_un h
    have hm := g.many
    walk_at "d"
    rw [S_len]
    have hrs : (Builtin.Range.rangeSize 0 (s.length : Int) 2).toNat = lev := by
      have : (s.length : Int) = ((2 * lev : Nat) : Int) := by rw [hs]
      rw [this]
      unfold Builtin.Range.rangeSize
      split <;> omega
    rw [hrs]
    have hsz : s.length ≤ 10 := by omega
    refine ⟨Nat.le_trans hsz (by decide), by decide, by decide, ?_, ?_⟩
    · rw [show (s.length : Int) = ((s.length : Nat) : Int) from rfl]
      have all : ∀ i : Fin 11, Builtin.Range.small 0 ((i.val : Nat) : Int) 2 = true := by decide +kernel
      exact all ⟨s.length, by omega⟩
    have hb := byQ_bd (s := s) g he hn
    refine forD_inv (fun i ρ z' => (∃ a4 a5, ρ = [.val (gridD CG l al), .val (.int (byQ al s e n i).1), .val (.int (byQ al s e n i).2), .val (.str (S s)), a4, a5]) ∧ z' = z) ⟨⟨_, _, rfl⟩, rfl⟩ ?_ ?_
    · rintro i d ρ z' hdi ⟨⟨a4, a5, rfl⟩, rfl⟩
      have hi := lt_of_get hdi
      unfold rngC at hdi hi
      rw [List.length_map, List.length_range] at hi
      rw [List.getElem?_map, List.getElem?_range hi] at hdi
      cases hdi
      have hil : i < al.length := by omega
      have hszi := g.size (List.getElem_mem hil)
      obtain ⟨_, m1⟩ := okS_at (hok (2 * i) (by omega)) (by omega)
      obtain ⟨_, m2⟩ := okS_at (hok (2 * i + 1) (by omega)) (by omega)
      have d1 : 2 * i / 2 = i := by omega
      have d2 : (2 * i + 1) / 2 = i := by omega
      simp only [d1] at m1
      simp only [d2] at m2
      obtain ⟨r1, o1⟩ := idx_first m1
      obtain ⟨r2, o2⟩ := idx_first m2
      obtain ⟨b1, b2⟩ := hb i (by omega) (by omega) fun j hj => hok j (by omega)
      walk_at "d"
      have e2 : (0 + (i : Int) * 2) / 2 + 1 = (i : Int) + 1 := by omega
      rw [if_pos (show (0 : Int) < 2 by decide)]
      refine ⟨meth_G (by decide), by decide, use_alphabet i e2 (List.getElem?_eq_getElem hil) ?_⟩
      walk_at "d"
      rw [S_len]
      have hcm : ∀ x : Int, x.natAbs < 2 ^ (100 + 5 * i) → CMulW x (al[i].length : Nat) := fun x hx => wide_mul (a := 200) (b := 100) (Nat.lt_of_lt_of_le hx (Nat.pow_le_pow_right (by decide) (by omega))) (Nat.lt_of_le_of_lt (show ((al[i].length : Nat) : Int).natAbs ≤ 24 by omega) (by decide)) (by decide) (by decide) (by decide)
      have hal : al[i].length ≤ sizeLine := Nat.le_trans hszi.2 (by decide)
      have hsl : s.length ≤ sizeLine := Nat.le_trans hsz (by decide)
      refine ⟨hal, hcm _ b1, by rw [S_len]; exact hsl, s[2 * i], by rw [show (0 : Int) + (i : Int) * 2 = ((2 * i : Nat) : Int) by omega]; exact atI_nat (List.getElem?_eq_getElem (by omega)), _, r1, o1, ?_⟩
      refine ⟨hal, hcm _ b2, by rw [S_len]; exact hsl, s[2 * i + 1], by rw [show (0 : Int) + (i : Int) * 2 + 1 = ((2 * i + 1 : Nat) : Int) by omega]; exact atI_nat (List.getElem?_eq_getElem (by omega)), _, r2, o2, ?_⟩
      refine ⟨.val (.int (0 + (i : Int) * 2)), .val (.str (S al[i])), ?_⟩
      have eb : byQ al s e n (i + 1) = ((byQ al s e n i).1 * (al[i].length : Nat) + (al[i].idxOf s[2 * i] : Nat), (byQ al s e n i).2 * (al[i].length : Nat) + (al[i].idxOf s[2 * i + 1] : Nat)) := by
        conv => lhs; unfold byQ
        rw [List.getElem?_eq_getElem hil, List.getElem?_eq_getElem (show 2 * i < s.length by omega), List.getElem?_eq_getElem (show 2 * i + 1 < s.length by omega)]
        rfl
      rw [eb]
    · rintro ρ z' ⟨⟨a4, a5, rfl⟩, rfl⟩
      rw [show (rngC 0 2 lev).length = lev by unfold rngC; rw [List.length_map, List.length_range]]
      walk_at "d"
      rw [S_len, if_pos (show (0 : Int) < 2 by decide), show (s.length : Int) / 2 = (lev : Nat) by omega]
      obtain ⟨b1, b2⟩ := hb lev hlev (by omega) fun j hj => hok j (by omega)
      have up : 2 ^ (100 + 5 * lev) ≤ 2 ^ 200 := Nat.pow_le_pow_right (by decide) (by omega)
      exact ⟨Nat.le_trans hsz (by decide), by decide, use_Square g (Nat.lt_of_lt_of_le b1 up) (Nat.lt_of_lt_of_le b2 up) hlev k⟩
/-- read_square(grid, text) -/
@[irreducible] def spRead (K : PySem.W.Frag) (CS CG CF : Addr) : PSp := fun ds z R RX => ∃ (l : List Nat) (al : List (List Nat)) (d : D), ds = [gridD CG l al, d] ∧ GOk l al ∧
  ((∃ t : List Nat, d = .str (S t) ∧ t.length ≤ 90000 ∧ (∀ lev e n, readQ al t = .inl (lev, e, n) → lev ≤ al.length → e.natAbs < 2 ^ 200 → n.natAbs < 2 ^ 200 → R (sqD CS CG l al lev e n) z) ∧ (∀ i, readQ al t = .inr i → RX CF ["text", "at"] [.str (S t), .int (i : Nat)] z)) ∨
   ∃ ty, tyD K d ty ∧ PySem.W.kitOne K ty (.type "str") = some false ∧ RX CF ["text", "at"] [d, .non] z)
theorem spRead_of {K : PySem.W.Frag} {CS CG CF : Addr} {ds : List D} {z : Z} {R : D → Z → Prop} {RX : PX} (h_ : ∃ (l : List Nat) (al : List (List Nat)) (d : D), ds = [gridD CG l al, d] ∧ GOk l al ∧
  ((∃ t : List Nat, d = .str (S t) ∧ t.length ≤ 90000 ∧ (∀ lev e n, readQ al t = .inl (lev, e, n) → lev ≤ al.length → e.natAbs < 2 ^ 200 → n.natAbs < 2 ^ 200 → R (sqD CS CG l al lev e n) z) ∧ (∀ i, readQ al t = .inr i → RX CF ["text", "at"] [.str (S t), .int (i : Nat)] z)) ∨
   ∃ ty, tyD K d ty ∧ PySem.W.kitOne K ty (.type "str") = some false ∧ RX CF ["text", "at"] [d, .non] z)) : spRead K CS CG CF ds z R RX := by unfold spRead; exact h_
theorem spRead_un {K : PySem.W.Frag} {CS CG CF : Addr} {ds : List D} {z : Z} {R : D → Z → Prop} {RX : PX} (h_ : spRead K CS CG CF ds z R RX) : ∃ (l : List Nat) (al : List (List Nat)) (d : D), ds = [gridD CG l al, d] ∧ GOk l al ∧
  ((∃ t : List Nat, d = .str (S t) ∧ t.length ≤ 90000 ∧ (∀ lev e n, readQ al t = .inl (lev, e, n) → lev ≤ al.length → e.natAbs < 2 ^ 200 → n.natAbs < 2 ^ 200 → R (sqD CS CG l al lev e n) z) ∧ (∀ i, readQ al t = .inr i → RX CF ["text", "at"] [.str (S t), .int (i : Nat)] z)) ∨
   ∃ ty, tyD K d ty ∧ PySem.W.kitOne K ty (.type "str") = some false ∧ RX CF ["text", "at"] [d, .non] z) := by unfold spRead at h_; exact h_
abbrev s_read_square : Stmt := (top 20)
abbrev read_square.N : List Str := ["grid", "text", "middle", "whole", "many", "end", "east", "north", "signs", "right"]
abbrev read_square.ps : List Str := ["grid", "text"]
theorem sc_read_square : FnScope read_square.N read_square.ps (defScope s_read_square) := ⟨rfl, rfl, rfl, by decide +kernel, rfl, by decide +kernel, by decide +kernel⟩
theorem ok_read_square (F : Fun K "read_square" "read_square" s_read_square f fd) (T : T14 mg) (X_NoReference : ExcOk P w K mg base "NoReference" CF ["text", "at"] NoReference_init.ps) (C_number_begun : Callee P w K mg base CX0 1 "number_begun" s_number_begun number_begun.ps (lift K spNumB))
    (C_signs_begun : Callee P w K mg base CX0 3 "signs_begun" s_signs_begun signs_begun.ps (lift K (spSgB CG))) (C_square_by : Callee P w K mg base (L2.CX P w) 6 "square_by" s_square_by square_by.ps (lift K (spSqBy CS CG)))
    (C_Square : Maker P w K mg base (L2.CX P w) 4 "Square" CS (dR s_Square_init "__init__" "Square.__init__" K) Square_init.ps (liftI K CS (spSquare K CG CQ))) : FnG P w K mg base (L2.CX P w) 7 f fd read_square.ps (lift K (spRead K CS CG CF)) := by
  refine dbodyX F sc_read_square (fun ds z R RX h => ?_) fun cdv A outer s H E hr hg => ⟨_, (dss_cons (ds_if (dt_not (dt_truth (dp_of (de_fn (cd_isiK (K := K) rfl) (by rfl) T.b_isinstance (by decide +kernel) (da_cons (dp_var 1) (da_cons (dp_of (de_c (pe_bltn (v := .ty "str") (u := .type "str") (by rfl) T.b_str (by decide +kernel) rfl) (fun _ _ => Rep.t))) da_nil)))))) (dss_one (X_NoReference.dRaise rfl rfl hr (takes_of rfl rfl rfl rfl) (das_cons (de_var 1) (das_cons de_non das_nil)))) dss_nil)
      (dss_cons (ds_asg (C_number_begun.d0 rfl hr hg (atAll pass0) (das_cons (de_var 1) (das_cons de_int das_nil))) (dg_tup (n := 2) rfl (dgs_cons (dg_name (i := 2) sc_read_square.nd rfl (Or.inl rfl)) (dgs_cons (dg_name (i := 3) sc_read_square.nd rfl (Or.inl rfl)) dgs_nil))))
      (dss_cons (ds_if (DWt.pt (dw_or (dt_not (dt_truth (dp_var 3))) (dw_or1 (dt_cmp (od_ne hr.units) (dp_of (de_slice sd_sl (dp_var 1) (do_some (de_var 2)) (do_some (de_op od_add (dp_var 2) (dp_of de_int))))) (dp_of de_str) (nomark _))))) (dss_one (X_NoReference.dRaise rfl rfl hr (takes_of rfl rfl rfl rfl) (das_cons (de_var 1) (das_cons (de_var 2) das_nil)))) dss_nil)
      (dss_cons (ds_asg (C_number_begun.d0 rfl hr hg (atAll pass0) (das_cons (de_var 1) (das_cons (de_op od_add (dp_var 2) (dp_of de_int)) das_nil))) (dg_tup (n := 2) rfl (dgs_cons (dg_name (i := 4) sc_read_square.nd rfl (Or.inl rfl)) (dgs_cons (dg_name (i := 3) sc_read_square.nd rfl (Or.inl rfl)) dgs_nil))))
      (dss_cons (ds_set (i := 5) sc_read_square.nd rfl (Or.inl rfl) (de_op od_add (dp_of (de_op od_add (dp_var 2) (dp_of de_int))) (dp_var 4)))
      (dss_cons (ds_if (DWt.pt (dw_or (dt_not (dt_truth (dp_var 3))) (dw_or1 (dt_cmp od_notIn (dp_of (de_slice sd_sl (dp_var 1) (do_some (de_var 5)) (do_some (de_op od_add (dp_var 5) (dp_of de_int))))) (dp_of (de_tup (das_cons de_str (das_cons de_str das_nil)))) (by rfl))))) (dss_one (X_NoReference.dRaise rfl rfl hr (takes_of rfl rfl rfl rfl) (das_cons (de_var 1) (das_cons (de_var 5) das_nil)))) dss_nil)
      (dss_cons (ds_par3 (i := 6) (j := 7) (l := 8) rfl sc_read_square.nd rfl rfl rfl (by decide) (by decide) (by decide) rfl rfl rfl (das_cons (de_ty cd_int (by rfl) T.b_int (by decide +kernel) (da_cons (dp_of (de_slice sd_sl (dp_var 1) do_none (do_some (de_var 2)))) da_nil)) (das_cons (de_ty cd_int (by rfl) T.b_int (by decide +kernel) (da_cons (dp_of (de_slice sd_sl (dp_var 1) (do_some (de_op od_add (dp_var 2) (dp_of de_int))) (do_some (de_var 5)))) da_nil)) (das_cons (de_slice sd_sl (dp_var 1) (do_some (de_op od_add (dp_var 5) (dp_of de_int))) do_none) das_nil))) (by rfl))
      (dss_cons (ds_if (dt_cmp (od_eq hr.units) (dp_var 5) (dp_of (de_fn cd_len (by rfl) T.b_len (by decide +kernel) (da_cons (dp_var 1) da_nil))) (nomark _)) (dss_one (ds_ret (C_Square.dE rfl hr hg (fun σ => passAt (takes_of rfl rfl rfl rfl) σ) (das_cons (de_var 0) (das_cons de_int (das_cons (de_var 6) (das_cons (de_var 7) das_nil))))))) dss_nil)
      (dss_cons (ds_set (i := 9) sc_read_square.nd rfl (Or.inl rfl) (C_signs_begun.d0 rfl hr hg (atAll pass0) (das_cons (de_var 0) (das_cons (de_var 8) das_nil))))
      (dss_cons (ds_if (DWt.pt (dw_or (dt_cmp od_lt (dp_var 9) (dp_of (de_fn cd_len (by rfl) T.b_len (by decide +kernel) (da_cons (dp_var 8) da_nil))) (nomark _)) (dw_or (dt_cmp (od_eq hr.units) (dp_var 9) (dp_of de_int) (nomark _)) (dw_or1 (dt_cmp od_gt (dp_of (de_op od_mod (dp_var 9) (dp_of de_int))) (dp_of de_int) (nomark _)))))) (dss_one (X_NoReference.dRaise rfl rfl hr (takes_of rfl rfl rfl rfl) (das_cons (de_var 1) (das_cons (de_op od_add (dp_of (de_op od_add (dp_var 5) (dp_of de_int))) (dp_var 9)) das_nil)))) dss_nil)
      (dss_one (ds_ret (C_square_by.dE rfl hr hg (fun σ => passAt (takes_of rfl rfl rfl rfl) σ) (das_cons (de_var 0) (das_cons (de_var 6) (das_cons (de_var 7) (das_cons (de_var 8) das_nil))))))))))))))))), fun ds z R RX h => ?_⟩
  · obtain ⟨l, al, d, rfl, _⟩ := spRead_un h
    rfl
  · obtain ⟨l, al, d, rfl, g, h⟩ := spRead_un h
    walk_at "d"
    rcases h with ⟨t, rfl, ht, k1, k2⟩ | ⟨ty, hty, hk, k⟩
    · refine ⟨.type "str", .type "str", true, rfl, rfl, kit_self', ?_⟩
      walk_at "d"
      refine spNumB_of ⟨t, 0, rfl, by omega, by omega, ?_⟩
      walk_at "d"
      have hz : (100000 : Nat) ≤ sizeLine := by decide
      have hlt : (S t).length ≤ sizeLine := by rw [S_len]; omega
      have sl : ∀ i : Nat, cutS (S t) (some (i : Int)) (some ((i : Int) + 1)) = S (t[i]?).toList := fun i => by
        rw [show (i : Int) + 1 = ((i + 1 : Nat) : Int) by omega, cutS_nat, Nat.add_sub_cancel_left, drop_one]
        cases t[i]? <;> rfl
      have e47 : ∀ i : Nat, decide (cutS (S t) (some (i : Int)) (some ((i : Int) + 1)) = Str.ofString "/") = decide (t[i]? = some 47) := fun i => by
        rw [sl, show Str.ofString "/" = S [47] by decide +kernel]
        cases t[i]? with
        | none => simp [S_inj_iff]
        | some c => simp [S_inj_iff]
      have nt1 := numB_true (t := t) (a := 0)
      rw [e47]
      unfold readQ at k1 k2
      simp only at k1 k2
      generalize hp : numB t 0 = p at nt1 k1 k2 ⊢
      obtain ⟨m, wh⟩ := p
      simp only at nt1 k1 k2 ⊢
      cases wh with
      | false =>
        rw [if_pos (show (!false) = true from rfl)]
        refine k2 m ?_
        rw [if_pos (.inl rfl)]
      | true =>
      rw [if_neg (show ¬ (!true) = true by decide)]
      refine ⟨hlt, ?_⟩
      by_cases h47 : t[m]? = some 47
      case neg =>
        rw [decide_eq_false h47, if_pos (show (!false) = true from rfl)]
        refine k2 m ?_
        rw [if_pos (.inr h47)]
      rw [decide_eq_true h47, if_neg (show ¬ (!true) = true by decide)]
      have nh1 : ¬ (true = false ∨ t[m]? ≠ some 47) := fun h => h.elim (fun q => by cases q) (fun q => q h47)
      rw [if_neg nh1] at k1 k2
      obtain ⟨v1, v2, v3⟩ := nt1 rfl
      rw [List.drop_zero] at v1 v3
      have hmt : m < t.length := (List.getElem?_eq_some_iff.mp h47).1
      refine spNumB_of ⟨t, m + 1, rfl, by omega, by omega, ?_⟩
      have nt2 := numB_true (t := t) (a := m + 1)
      generalize hq : numB t (m + 1) = q at nt2 k1 k2 ⊢
      obtain ⟨m2, w2⟩ := q
      simp only at nt2 k1 k2 ⊢
      walk_at "d"
      have ez : (m : Int) + 1 + (m2 : Int) = ((m + 1 + m2 : Nat) : Int) := by omega
      rw [ez]
      generalize hzz : m + 1 + m2 = zz at k1 k2 ⊢
      cases w2 with
      | false =>
        rw [if_pos (show (!false) = true from rfl)]
        refine k2 zz ?_
        rw [if_pos (.inl rfl)]
      | true =>
      rw [if_neg (show ¬ (!true) = true by decide)]
      obtain ⟨u1, u2, u3⟩ := nt2 rfl
      refine ⟨hlt, _, _, rfl, rfl, ?_⟩
      have ein : inV (.str (cutS (S t) (some (zz : Int)) (some ((zz : Int) + 1)))) [.str (Str.ofString ""), .str (Str.ofString " ")] = decide (t[zz]? = none ∨ t[zz]? = some 32) := by
        rw [sl, show Str.ofString "" = S [] by decide +kernel, show Str.ofString " " = S [32] by decide +kernel]
        unfold inV
        simp only [List.any_cons, List.any_nil, Bool.or_false, eqV]
        rw [Bool.eq_iff_iff, Bool.or_eq_true, beq_iff_eq, beq_iff_eq, decide_eq_true_eq]
        cases t[zz]? with
        | none => simp [S_inj_iff]
        | some c =>
          simp [S_inj_iff]
          exact eq_comm
      rw [ein]
      by_cases hend : t[zz]? = none ∨ t[zz]? = some 32
      case neg =>
        rw [decide_eq_false hend, if_pos (show (!false) = true from rfl)]
        refine k2 zz ?_
        rw [if_pos (.inr hend)]
      rw [decide_eq_true hend, if_neg (show ¬ (!true) = true by decide)]
      have nh2 : ¬ (true = false ∨ ¬ (t[zz]? = none ∨ t[zz]? = some 32)) := fun h => h.elim (fun q => by cases q) (fun q => q hend)
      rw [if_neg nh2] at k1 k2
      have c1 : cutS (S t) none (some (m : Int)) = S (t.take m) := by
        unfold cutS
        rw [HT.sIx_nat, HT.sIx_none, S_len]
        show S ((t.drop 0).take (min m t.length - 0)) = _
        rw [List.drop_zero, Nat.sub_zero, Nat.min_eq_left (by omega)]
      have c2 : cutS (S t) (some ((m : Int) + 1)) (some (zz : Int)) = S ((t.drop (m + 1)).take m2) := by
        rw [show (m : Int) + 1 = ((m + 1 : Nat) : Int) by omega, cutS_nat]
        congr 2
        omega
      have c3 : cutS (S t) (some ((zz : Int) + 1)) none = S (t.drop (zz + 1)) := by
        rw [show (zz : Int) + 1 = ((zz + 1 : Nat) : Int) by omega]
        exact cutS_from _ _
      rw [c1, c2, c3]
      refine ⟨hlt, _, v1, by rw [S_len, List.length_take]; omega, hlt, _, u1, by rw [S_len, List.length_take]; omega, hlt, hlt, ?_⟩
      rw [S_len]
      have hv3 : (valQ (t.take m)).natAbs < 2 ^ 100 := Nat.lt_trans v3 (by decide)
      have hu3 : (valQ ((t.drop (m + 1)).take m2)).natAbs < 2 ^ 100 := Nat.lt_trans u3 (by decide)
      generalize valQ (t.take m) = E at hv3 k1 k2 ⊢
      generalize valQ ((t.drop (m + 1)).take m2) = N at hu3 k1 k2 ⊢
      have hv4 : E.natAbs < 2 ^ 200 := Nat.lt_trans hv3 (by decide)
      have hu4 : N.natAbs < 2 ^ 200 := Nat.lt_trans hu3 (by decide)
      by_cases hze : zz = t.length
      · rw [if_pos (show decide ((zz : Int) = (t.length : Int)) = true by rw [hze]; exact decide_eq_true rfl)]
        rw [if_pos hze] at k1
        exact use_Square (lev := 0) g hv4 hu4 (Nat.zero_le _) (k1 0 E N rfl (Nat.zero_le _) hv4 hu4)
      rw [if_neg (show ¬ decide ((zz : Int) = (t.length : Int)) = true by rw [decide_eq_true_eq]; omega)]
      rw [if_neg hze] at k1 k2
      generalize hs : t.drop (zz + 1) = s at k1 k2 ⊢
      have hsl : s.length ≤ 90000 := by rw [← hs, List.length_drop]; omega
      refine spSgB_of ⟨l, al, s, rfl, g, by omega, ?_⟩
      rw [S_len]
      walk_at "d"
      have hss : s.length ≤ sizeLine := by omega
      refine ⟨hss, ?_⟩
      have ee : (zz : Int) + 1 + (sgB al s : Nat) = ((zz + 1 + sgB al s : Nat) : Int) := by omega
      rw [ee]
      refine iteD (fun q1 => ?_) (fun q1 => ?_)
      · refine k2 _ ?_
        rw [if_pos (.inl (by omega))]
      refine iteD (fun q2 => ?_) (fun q2 => ?_)
      · refine k2 _ ?_
        rw [if_pos (.inr (.inl (by omega)))]
      refine ⟨by decide, iteD (fun q3 => ?_) (fun q3 => ?_)⟩
      · refine k2 _ ?_
        rw [if_pos (.inr (.inr (by omega)))]
      have nh3 : ¬ (sgB al s < s.length ∨ sgB al s = 0 ∨ sgB al s % 2 ≠ 0) := by omega
      rw [if_neg nh3] at k1
      have hle := sgB_le al s
      have hall := sgB_all (al := al) (s := s) (by omega)
      have hev : s.length = 2 * (s.length / 2) := by omega
      have hlv : s.length / 2 ≤ al.length := by
        obtain ⟨h1, _⟩ := okS_at (hall (s.length - 1) (by omega)) (by omega)
        omega
      obtain ⟨b1, b2⟩ := byQ_bd g hv3 hu3 (s.length / 2) hlv (by omega) fun j hj => hall j (by omega)
      have hm := g.many
      have up : 2 ^ (100 + 5 * (s.length / 2)) ≤ 2 ^ 200 := Nat.pow_le_pow_right (by decide) (by omega)
      exact spSqBy_of ⟨l, al, E, N, s, s.length / 2, rfl, g, hev, hlv, hall, hv3, hu3, k1 _ _ _ rfl hlv (Nat.lt_of_lt_of_le b1 up) (Nat.lt_of_lt_of_le b2 up)⟩
    · refine ⟨ty, .type "str", false, hty, rfl, hk, ?_⟩
      walk_at "d"
      exact k
end

end K14

set_option Elab.async false
set_option linter.all false
set_option maxRecDepth 100000
set_option maxHeartbeats 2000000
namespace K14
open PySem L2 Lay RZ SkE SX
/-! ### reading steps over trees -/
local macro_rules | `(tactic| walk_at "d") => `(tactic| try simp -implicitDefEqProofs only [cxK, noxK, wishK, startD, startI, List.map_cons, List.map_nil, List.length_cons, List.length_nil, List.length_singleton, Nat.zero_add, Nat.reduceAdd, Nat.reduceSub, Nat.add_one_sub_one, List.replicate_succ, List.replicate_zero, List.cons_append, List.nil_append, List.append_nil,
  ap_dVar, ap_dPeek, ap_dC, ap_dOp, ap_dTest, ap_dChain, ap_dTru, ap_dAndB, ap_dOrB, ap_dNotB, ap_dAnd, ap_dOr, ap_dNot, ap_dNil, ap_dCons, ap_dTup, ap_dLst, ap_dLet, ap_dSized, ap_dUn, ap_dNoPart, ap_dPart, ap_dSl, ap_dFn, ap_dMt, ap_dMt0, ap_dFs, ap_dFmt, ap_dJoin, ap_dNext, ap_dSeq, ap_dDrop, ap_dRet, ap_dIf, ap_dAsg, ap_dSet, ap_dOwn, ap_dAppend, ap_dAug, ap_dFldS, ap_dPar, ap_dPar3, ap_dIt, ap_dItA, ap_dFor, ap_dLc, ap_dYes, ap_dCall, ap_dCall0, ap_dCallKw, ap_dCallKw0, ap_dMeth, ap_dMeth0, ap_dMethKw, ap_dOne, ap_dFmtO, ap_dEqO, ap_dReqO, ap_dMake, ap_dMake0, ap_dMakeKw, ap_dMakeKw0, ap_dRaise, ap_dPair, ap_dCat, ex_obj1, ex_obj2, ex_ins1, ex_ins2, ex_str, ex_own, ex_val, ap_ix0, ap_ix1, ap_ix2, e_lenOk, e_isStr, le_sz0, le_sz1, le_sz2, le_sz3, le_sz4, le_sz5, le_sz6, le_sz7, le_sz8, ap_dIfE, ap_isD, ap_in1, ap_in2, ap_in3, ap_isi, ap_sum, ap_any, ap_dJs0, ap_dJs1, ap_dgName, ap_dgTup, ap_dgCons, ap_dgNil, ap_dTry, ap_dXf, e_tru1, e_tru2, e_tru3, e_tru4, e_tru5, e_tru6, e_tru7, e_fmtD1, e_fmtD2, e_iterD1, e_iterD2, e_iterD3, e_iterD4, e_addD1, e_addD2, e_addD3, e_addD4, e_subD1, e_mulD1, e_mulD2, e_mulD3, e_fdivD1, e_modD1, e_powD1, e_cmpD1, e_cmpD2, e_eqD1, e_eqD2, e_eqD3, e_eqD4, e_eqD5, e_eqD6, e_eqD7, e_eqD8, e_eqD9, e_eqD10, e_eqD11, e_eqD12, e_eqD13, e_eqD14, e_isNonD1, e_negD1, e_ixD1, e_ixD2, e_ixD3, e_ixD4, e_slD1, e_slD2, e_slD3, e_slD4, e_lenD1, e_lenD2, e_lenD3, e_lenD4, e_absD1, e_mmD1, e_intD1, e_intD2, e_intD3, e_strD1, e_strD2, e_tupleD1, e_tupleD2, e_tupleD3, e_listD1, e_listD2, e_listD3, e_splitD1, e_joinD1, e_joinD2, e_str1D1, e_iaddD1, e_iaddD2, e_imulD1, e_ifdivD1, e_enumD1, e_enumD2, e_zipF1, e_zipF2, e_rng11, e_rng21, e_rng31, e_fldD1, e_dixD1, e_dixD2, e_revSD1, e_catD1, ap_dTryK, ap_dSetX, kx_any, kx_val, kx_own, kx_exc, e_xfD, e_nonX, e_rngW, ap_dExtend, e_extD, ap_best, ap_dItR, e_revF1, e_revF2, e_revF3, ap_dTryN, ap_dRaiseU, ap_dSplitN, e_splitN, ap_dSetIx, e_setD, e_zipG, ap_dTupO, e_caseD, e_rngS, e_enumG, ap_dInO, ap_dPopSet, e_popD, ap_dAppPop, ap_dPairON, ap_dListN, e_listN1, e_listN2, e_listN3, e_listN4, e_isB, ap_dIsX, ap_dgLst, ap_dReprT, ap_dBoolO, ap_dEqG, e_shlD1, e_eqE, ap_dPar3O, ap_bestT, ap_dPar3E, e_kin, e_kix, e_index, ltD, leD, gtD, geD, minD, maxD, wipeD,
  List.set_cons_zero, List.set_cons_succ, List.getElem?_cons_zero, List.getElem?_cons_succ, List.length_set, if_true, if_false, Bool.false_eq_true, reduceIte, id, Bool.not_true, Bool.not_false, true_and, and_true, List.zip_cons_cons, List.zip_nil_right, List.zip_nil_left, reduceCtorEq, Option.some.injEq,
  Nat.reduceLT, Nat.reduceLeDiff, Nat.reduceEqDiff, and_self, ite_self, decide_true, decide_false, eq_self])
local macro_rules | `(tactic| walk_at "ds") => `(tactic| first | rfl | decide | assumption | omega | exact Nat.le_of_ble_eq_true rfl)

section
/-! ### references written, plain -/
def intL (i : Int) : List Nat := if i < 0 then 45 :: TL.numL i.natAbs else TL.numL i.natAbs
theorem ofS_app (a b : String) : Str.ofString (a ++ b) = Str.ofString a ++ Str.ofString b := by
  have e : TL.tl (Str.ofString (a ++ b)) = TL.tl (Str.ofString a) ++ TL.tl (Str.ofString b) := by
    simp only [TL.tl_ofString, String.toList_append, List.map_append]
  rw [← SX.S_tl (Str.ofString (a ++ b)), ← SX.S_tl (Str.ofString a), ← SX.S_tl (Str.ofString b), SX.S_cat]
  exact congrArg SX.S e
theorem int_S (i : Int) : Str.ofString (toString i) = S (intL i) := by
  unfold intL
  cases i with
  | ofNat n =>
    rw [if_neg (show ¬ Int.ofNat n < 0 from Int.not_lt.mpr (Int.natCast_nonneg n))]
    exact SX.num_S n
  | negSucc n =>
    rw [if_pos (Int.negSucc_lt_zero n)]
    have e : toString (Int.negSucc n) = "-" ++ toString (((n + 1 : Nat) : Int)) := rfl
    rw [e, ofS_app, SX.num_S, show Str.ofString "-" = S [45] by decide +kernel, S_cat]
    rfl
theorem num_digits (n : Nat) : ∀ c ∈ TL.numL n, isFig c = true := fun c m => by
  have := TL.numL_digits n c m
  unfold isFig
  rw [decide_eq_true this.1, decide_eq_true this.2]
  rfl
theorem num_head : ∀ (n : Nat), 0 < n → ∃ c r, TL.numL n = c :: r ∧ c ≠ 48 := by
  intro n
  induction n using Nat.strongRecOn with
  | _ n ih =>
    intro h
    by_cases hn : n < 10
    · exact ⟨48 + n, [], TL.numL_lt hn, by omega⟩
    · obtain ⟨c, r, e, hc⟩ := ih (n / 10) (by omega) (by omega)
      exact ⟨c, r ++ [48 + n % 10], by rw [TL.numL_step (by omega), e]; rfl, hc⟩
theorem lead_app {d rest : List Nat} (hd : ∀ c ∈ d, isFig c = true) (hr : ∀ c, rest[0]? = some c → isFig c = false) : lead (d ++ rest) = d.length := by
  unfold lead
  rw [List.takeWhile_append_of_pos hd]
  cases rest with
  | nil => simp
  | cons c r =>
    have := hr c rfl
    rw [List.takeWhile_cons, if_neg (by rw [this]; decide)]
    simp
theorem lead_ge {d rest : List Nat} (hd : ∀ c ∈ d, isFig c = true) : d.length ≤ lead (d ++ rest) := by
  unfold lead
  rw [List.takeWhile_append_of_pos hd, List.length_append]
  omega
theorem numB_drop (t : List Nat) (a : Nat) : numB t a = numB (t.drop a) 0 := by
  unfold numB
  simp only [Nat.zero_add, List.getElem?_drop, List.drop_drop, Nat.add_zero]
/-- a number of figures, the first of them no nought -/
theorem numB_figs {c : Nat} {r rest : List Nat} (sgn : Bool) (hd : ∀ x ∈ c :: r, isFig x = true) (hc : c ≠ 48) : numB ((if sgn then [45] else []) ++ (c :: r) ++ rest) 0 = ((if sgn then 1 else 0) + min 9 (lead ((c :: r) ++ rest)), true) := by
  have hf := hd c List.mem_cons_self
  have h45 : c ≠ 45 := fun h => by rw [h] at hf; exact absurd hf (by decide)
  unfold numB
  cases sgn with
  | true => simp [hf, hc]
  | false => simp [hf, hc, h45]
theorem numB_int {i : Int} {rest : List Nat} (hi : i.natAbs < 10 ^ 9) (hr : ∀ c, rest[0]? = some c → isFig c = false) : numB (intL i ++ rest) 0 = ((intL i).length, true) := by
  by_cases h0 : i = 0
  · subst h0
    have e : intL 0 = [48] := by decide +kernel
    rw [e]
    unfold numB
    simp [isFig]
  · obtain ⟨c, r, e, hc⟩ := num_head i.natAbs (by omega)
    have hd : ∀ x ∈ c :: r, isFig x = true := by rw [← e]; exact num_digits _
    have hl : (c :: r).length ≤ 9 := by rw [← e]; exact TL.numL_len (by decide) hi
    have hL := lead_app (rest := rest) hd hr
    have q := numB_figs (rest := rest) (decide (i < 0)) hd hc
    rw [hL, Nat.min_eq_right hl] at q
    unfold intL
    by_cases hn : i < 0
    · rw [if_pos hn, e]
      rw [decide_eq_true hn] at q
      rw [List.length_cons, Nat.add_comm]
      exact q
    · rw [if_neg hn, e]
      rw [decide_eq_false hn] at q
      rw [← Nat.zero_add (c :: r).length]
      exact q
theorem val_int (i : Int) : valQ (intL i) = i := by
  unfold intL
  by_cases hn : i < 0
  · rw [if_pos hn]
    show -(NumText.digitsVal (TL.numL i.natAbs) : Int) = i
    rw [TL.numL_val]
    omega
  · rw [if_neg hn]
    have e : valQ (TL.numL i.natAbs) = (NumText.digitsVal (TL.numL i.natAbs) : Nat) := by
      unfold valQ
      split
      · rename_i r h
        have := num_digits i.natAbs 45 (by rw [h]; exact List.mem_cons_self)
        exact absurd this (by decide)
      · rfl
    rw [e, TL.numL_val]
    omega
theorem int_free {i : Int} {c : Nat} (h : c ∈ intL i) : c = 45 ∨ isFig c = true := by
  unfold intL at h
  split at h
  · rcases List.mem_cons.mp h with q | q
    · exact .inl q
    · exact .inr (num_digits _ c q)
  · exact .inr (num_digits _ c h)
theorem int_len {i : Int} (hi : i.natAbs < 10 ^ 9) : (intL i).length ≤ 10 ∧ (0 ≤ i → (intL i).length ≤ 9) := by
  have := TL.numL_len (n := i.natAbs) (k := 9) (by decide) hi
  unfold intL
  split
  · rw [List.length_cons]; omega
  · omega
/-- the signs of an alphabet are unlike -/
theorem GOk.nodup {l a : List Nat} {al : List (List Nat)} (g : GOk l al) (h : a ∈ al) : a.Nodup := by
  have : some a ∈ al.map some := List.mem_map_of_mem h
  rw [← g.sg] at this
  obtain ⟨w, _, e⟩ := List.mem_map.mp this
  unfold signsOf at e
  split at e
  · split at e
    · cases e
      refine List.Nodup.sublist (List.take_sublist _ _) ?_
      unfold menu
      split
      · exact (by decide : letters.Nodup)
      · split
        · exact (by decide : figs.Nodup)
        · exact List.nodup_nil
    · cases e
  · cases e
end

section
/-! ### a reference is read as its square -/
variable {l : List Nat} {al : List (List Nat)} {lev : Nat}
/-- the number of the wider one of a level -/
def upQ (al : List (List Nat)) (lev : Nat) (x : Int) (j : Nat) : Int := x / manyQ al j lev
theorem upQ_self (g : GOk l al) (hl : lev ≤ al.length) (x : Int) : upQ al lev x lev = x := by
  obtain ⟨b1, _⟩ := g.sub (ws := al.drop lev) (fun a q => List.mem_of_mem_drop q) (by rw [List.length_drop]; omega)
  unfold upQ manyQ
  rw [Int.ediv_self (by omega), Int.ediv_one]
theorem upQ_step (g : GOk l al) (hl : lev ≤ al.length) (x : Int) {j : Nat} (hj : j < lev) : upQ al lev x j = upQ al lev x (j + 1) / ((al[j]'(by omega)).length : Nat) := by
  have hj2 : j < al.length := by omega
  obtain ⟨q1, _, q3⟩ := manyQ_pos g (m := j) (lev := lev) (by omega) hl
  obtain ⟨r1, _, r3⟩ := manyQ_pos g (m := j + 1) (lev := lev) (by omega) hl
  obtain ⟨b1, _⟩ := g.sub (ws := al.drop lev) (fun a q => List.mem_of_mem_drop q) (by rw [List.length_drop]; omega)
  have hs := (g.size (List.getElem_mem hj2)).1
  have e : prodL (al.drop j) = (al[j].length : Nat) * prodL (al.drop (j + 1)) := by
    rw [List.drop_eq_getElem_cons hj2]
    rfl
  have em : manyQ al j lev = manyQ al (j + 1) lev * (al[j].length : Nat) := by
    have h1 : manyQ al j lev * prodL (al.drop lev) = (manyQ al (j + 1) lev * (al[j].length : Nat)) * prodL (al.drop lev) := by
      rw [← q3, e, r3]
      rw [Int.mul_comm (manyQ al (j + 1) lev) (al[j].length : Int), Int.mul_assoc]
    exact Int.eq_of_mul_eq_mul_right (by omega) h1
  unfold upQ
  rw [em, Int.ediv_ediv_of_nonneg (by omega)]
/-- the wheels behind i levels -/
theorem wheel_up (g : GOk l al) (hl : lev ≤ al.length) (x y : Int) : ∀ i, i ≤ lev → (wheel al lev x y i).2.1 = upQ al lev x (lev - i) ∧ (wheel al lev x y i).2.2 = upQ al lev y (lev - i)
  | 0, _ => by
    rw [Nat.sub_zero, upQ_self g hl, upQ_self g hl]
    exact ⟨rfl, rfl⟩
  | i + 1, hi => by
    obtain ⟨h1, h2⟩ := wheel_up g hl x y i (by omega)
    have hj : lev - i - 1 < al.length := by omega
    have ej : lev - i = (lev - i - 1) + 1 := by omega
    have s1 := upQ_step g hl x (j := lev - i - 1) (by omega)
    have s2 := upQ_step g hl y (j := lev - i - 1) (by omega)
    rw [← ej] at s1 s2
    rw [show lev - (i + 1) = lev - i - 1 by omega, s1, s2, ← h1, ← h2]
    have e : (al[lev - i - 1]?).getD [] = al[lev - i - 1] := by rw [List.getElem?_eq_getElem hj]; rfl
    show (wheel al lev x y i).2.1 / ((((al[lev - i - 1]?).getD []).length : Nat) : Int) = _ ∧ (wheel al lev x y i).2.2 / ((((al[lev - i - 1]?).getD []).length : Nat) : Int) = _
    rw [e]
    exact ⟨rfl, rfl⟩
theorem wheel_sign (g : GOk l al) (hl : lev ≤ al.length) (x y : Int) : ∀ i, i ≤ lev → ∀ j, lev - i ≤ j → (hj : j < lev) →
    (wheel al lev x y i).1[2 * (j - (lev - i))]? = (al[j]'(by omega))[(upQ al lev x (j + 1) % ((al[j]'(by omega)).length : Nat)).toNat]? ∧
    (wheel al lev x y i).1[2 * (j - (lev - i)) + 1]? = (al[j]'(by omega))[(upQ al lev y (j + 1) % ((al[j]'(by omega)).length : Nat)).toNat]?
  | 0, _, j, h1, hj => by omega
  | i + 1, hi, j, h1, hj => by
    have hk : lev - i - 1 < al.length := by omega
    obtain ⟨w1, w2⟩ := wheel_up g hl x y i (by omega)
    have ih := wheel_sign g hl x y i (by omega)
    unfold wheel
    simp only [List.getElem?_eq_getElem hk, Option.getD_some, w1, w2]
    by_cases hjj : j = lev - i - 1
    · subst hjj
      have ej : lev - i - 1 + 1 = lev - i := by omega
      have e0 : 2 * (lev - i - 1 - (lev - (i + 1))) = 0 := by omega
      rw [e0, ej]
      have hs := g.size (List.getElem_mem hk)
      have inr : ∀ v : Int, (v % (al[lev - i - 1].length : Nat)).toNat < al[lev - i - 1].length := fun v => by
        have a1 := Int.emod_nonneg v (show ((al[lev - i - 1].length : Nat) : Int) ≠ 0 by omega)
        have a2 := Int.emod_lt_of_pos v (show (0 : Int) < ((al[lev - i - 1].length : Nat) : Int) by omega)
        omega
      constructor
      · rw [List.getElem?_cons_zero, List.getElem?_eq_getElem (inr _)]; rfl
      · rw [Nat.zero_add, List.getElem?_cons_succ, List.getElem?_cons_zero, List.getElem?_eq_getElem (inr _)]; rfl
    · obtain ⟨h3, h4⟩ := ih j (by omega) hj
      have e0 : 2 * (j - (lev - (i + 1))) = 2 * (j - (lev - i)) + 2 := by omega
      rw [e0]
      exact ⟨h3, h4⟩
theorem sign_at (g : GOk l al) (hl : lev ≤ al.length) (x y : Int) {j : Nat} (hj : j < lev) :
    (signsQ al lev x y)[2 * j]? = (al[j]'(by omega))[(upQ al lev x (j + 1) % ((al[j]'(by omega)).length : Nat)).toNat]? ∧
    (signsQ al lev x y)[2 * j + 1]? = (al[j]'(by omega))[(upQ al lev y (j + 1) % ((al[j]'(by omega)).length : Nat)).toNat]? := by
  have := wheel_sign g hl x y lev (Nat.le_refl _) j (by omega) hj
  rw [Nat.sub_self, Nat.sub_zero] at this
  exact this
theorem idx_at {a : List Nat} (hn : a.Nodup) {i : Nat} (hi : i < a.length) : a.idxOf a[i] = i := List.Nodup.idxOf_getElem hn i hi
/-- the signs lead back -/
theorem by_up (g : GOk l al) (hl : lev ≤ al.length) (x y : Int) (s : List Nat) {m : Nat} (hm : m ≤ lev) (hs : ∀ j < 2 * m, s[j]? = (signsQ al lev x y)[j]?) :
    ∀ i, i ≤ m → byQ al s (upQ al lev x 0) (upQ al lev y 0) i = (upQ al lev x i, upQ al lev y i)
  | 0, _ => rfl
  | i + 1, hi => by
    have ih := by_up g hl x y s hm hs i (by omega)
    have hil : i < al.length := by omega
    have hsz := (g.size (List.getElem_mem hil)).1
    obtain ⟨q1, q2⟩ := sign_at g hl x y (j := i) (by omega)
    unfold byQ
    rw [ih, hs (2 * i) (by omega), hs (2 * i + 1) (by omega), q1, q2, List.getElem?_eq_getElem hil]
    simp only [Option.getD_some]
    have hn := g.nodup (List.getElem_mem hil)
    have inr : ∀ v : Int, (v % (al[i].length : Nat)).toNat < al[i].length ∧ (((v % (al[i].length : Nat)).toNat : Nat) : Int) = v % (al[i].length : Nat) := fun v => by
      have a1 := Int.emod_nonneg v (show ((al[i].length : Nat) : Int) ≠ 0 by omega)
      have a2 := Int.emod_lt_of_pos v (show (0 : Int) < ((al[i].length : Nat) : Int) by omega)
      omega
    rw [List.getElem?_eq_getElem (inr _).1, List.getElem?_eq_getElem (inr _).1]
    simp only [Option.getD_some]
    rw [idx_at hn, idx_at hn, (inr _).2, (inr _).2, upQ_step g hl x (j := i) (by omega), upQ_step g hl y (j := i) (by omega)]
    have e : ∀ v k : Int, v / k * k + v % k = v := fun v k => by rw [Int.mul_comm]; exact Int.mul_ediv_add_emod v k
    rw [e, e]
theorem ok_signs (g : GOk l al) (hl : lev ≤ al.length) (x y : Int) (s : List Nat) {m : Nat} (hm : m ≤ lev) (hlen : s.length = 2 * m) (hs : ∀ j < 2 * m, s[j]? = (signsQ al lev x y)[j]?) : sgB al s = s.length := by
  refine sgB_is (Nat.le_refl _) (fun j hj => ?_) fun h => absurd h (Nat.lt_irrefl _)
  have hd : j / 2 < al.length := by omega
  unfold okS
  rw [decide_eq_true hd, List.getElem?_eq_getElem hd, hs j (by omega)]
  obtain ⟨q1, q2⟩ := sign_at g hl x y (j := j / 2) (by omega)
  have hsz := (g.size (List.getElem_mem hd)).1
  have inr : ∀ v : Int, (v % (al[j / 2].length : Nat)).toNat < al[j / 2].length := fun v => by
    have a1 := Int.emod_nonneg v (show ((al[j / 2].length : Nat) : Int) ≠ 0 by omega)
    have a2 := Int.emod_lt_of_pos v (show (0 : Int) < ((al[j / 2].length : Nat) : Int) by omega)
    omega
  rcases (show j = 2 * (j / 2) ∨ j = 2 * (j / 2) + 1 by omega) with e | e
  · have : (signsQ al lev x y)[j]? = some (al[j / 2][(upQ al lev x (j / 2 + 1) % ((al[j / 2]).length : Nat)).toNat]'(inr _)) := by
      rw [← List.getElem?_eq_getElem (inr _), ← q1, ← e]
    rw [this]
    simp
  · have : (signsQ al lev x y)[j]? = some (al[j / 2][(upQ al lev y (j / 2 + 1) % ((al[j / 2]).length : Nat)).toNat]'(inr _)) := by
      rw [← List.getElem?_eq_getElem (inr _), ← q2, ← e]
    rw [this]
    simp
/-- the text of a sheet's numbers, then so many pairs of signs -/
def refL (E N : Int) (s : List Nat) : List Nat := intL E ++ 47 :: (intL N ++ if s = [] then [] else 32 :: s)
theorem fig47 : isFig 47 = false := by decide
theorem fig32 : isFig 32 = false := by decide
theorem read_ref (g : GOk l al) (hl : lev ≤ al.length) (x y : Int) (s : List Nat) {m : Nat} (hm : m ≤ lev) (hlen : s.length = 2 * m) (hs : ∀ j < 2 * m, s[j]? = (signsQ al lev x y)[j]?)
    (hx : (upQ al lev x 0).natAbs < 10 ^ 9) (hy : (upQ al lev y 0).natAbs < 10 ^ 9) : readQ al (refL (upQ al lev x 0) (upQ al lev y 0) s) = .inl (m, upQ al lev x m, upQ al lev y m) := by
  generalize hE : upQ al lev x 0 = E at hx
  generalize hN : upQ al lev y 0 = N at hy
  have n1 : numB (refL E N s) 0 = ((intL E).length, true) := numB_int hx fun c h => by cases h; exact fig47
  have hd : (refL E N s).drop ((intL E).length + 1) = intL N ++ if s = [] then [] else 32 :: s := by
    unfold refL
    rw [List.drop_append, Nat.add_sub_cancel_left, List.drop_eq_nil_of_le (by omega)]
    rfl
  have n2 : numB (refL E N s) ((intL E).length + 1) = ((intL N).length, true) := by
    rw [numB_drop, hd]
    refine numB_int hy fun c h => ?_
    by_cases q : s = []
    · rw [if_pos q] at h; cases h
    · rw [if_neg q] at h; cases h; exact fig32
  have t1 : (refL E N s)[(intL E).length]? = some 47 := by
    unfold refL
    rw [List.getElem?_append_right (Nat.le_refl _), Nat.sub_self]
    rfl
  have tz : (refL E N s)[(intL E).length + 1 + (intL N).length]? = (if s = [] then [] else 32 :: s)[0]? := by
    rw [← List.getElem?_drop, hd, List.getElem?_append_right (Nat.le_refl _), Nat.sub_self]
  have tk1 : (refL E N s).take (intL E).length = intL E := by unfold refL; rw [List.take_left']; rfl
  have tk2 : ((refL E N s).drop ((intL E).length + 1)).take (intL N).length = intL N := by rw [hd, List.take_left']; rfl
  have len : (refL E N s).length = (intL E).length + 1 + (intL N).length + (if s = [] then [] else 32 :: s).length := by
    unfold refL
    rw [List.length_append, List.length_cons, List.length_append]
    omega
  have ds : (refL E N s).drop ((intL E).length + 1 + (intL N).length + 1) = s := by
    rw [show (intL E).length + 1 + (intL N).length + 1 = ((intL E).length + 1) + ((intL N).length + 1) by omega, ← List.drop_drop, hd]
    by_cases q : s = []
    · rw [if_pos q, q, List.append_nil, List.drop_eq_nil_of_le (by omega)]
    · rw [if_neg q, List.drop_append, Nat.add_sub_cancel_left, List.drop_eq_nil_of_le (by omega)]
      rfl
  unfold readQ
  simp only [n1, n2, t1, tz, tk1, tk2, val_int, ds, len]
  rw [if_neg (by simp)]
  by_cases q : s = []
  · subst q
    have h0 : m = 0 := by simp at hlen; omega
    subst h0
    rw [if_neg (by simp), if_pos (by simp), hE, hN]
  · have hpos : 0 < s.length := List.length_pos_iff.mpr q
    rw [if_neg q]
    have sg := ok_signs g hl x y s hm hlen hs
    rw [if_neg (by simp), if_neg (by simp), sg, if_neg (by omega)]
    have e2 : s.length / 2 = m := by omega
    rw [e2, ← hE, ← hN, by_up g hl x y s hm hs m (Nat.le_refl _)]
end

section
/-! ### sheets of ten figures -/
/-- a number of ten figures, a stroke ahead or none -/
def greatL (sgn : Bool) (n : Nat) : List Nat := (if sgn then [45] else []) ++ TL.numL n
theorem num_len10 {n : Nat} (h1 : 10 ^ 9 ≤ n) (h2 : n < 10 ^ 10) : (TL.numL n).length = 10 := by
  have a := TL.numL_len (n := n) (k := 10) (by decide) h2
  have b : ¬ (TL.numL n).length ≤ 9 := fun h => by
    have d := digitsVal_lt (TL.numL_digits n) h
    rw [TL.numL_val] at d
    omega
  omega
theorem numB_great {sgn : Bool} {n : Nat} {rest : List Nat} (h1 : 10 ^ 9 ≤ n) (h2 : n < 10 ^ 10) : numB (greatL sgn n ++ rest) 0 = ((if sgn then 1 else 0) + 9, true) ∧ ∃ c, (greatL sgn n ++ rest)[(if sgn then 1 else 0) + 9]? = some c ∧ isFig c = true := by
  obtain ⟨c, r, e, hc⟩ := num_head n (by omega)
  have hl := num_len10 h1 h2
  have hd : ∀ x ∈ c :: r, isFig x = true := by rw [← e]; exact num_digits _
  have hg := lead_ge (rest := rest) hd
  rw [e] at hl
  rw [hl] at hg
  have q := numB_figs (rest := rest) sgn hd hc
  rw [Nat.min_eq_left (by omega)] at q
  unfold greatL
  rw [e]
  refine ⟨q, ?_⟩
  have h9 : 9 < (c :: r).length := by omega
  refine ⟨(c :: r)[9], ?_, hd _ (List.getElem_mem h9)⟩
  have h9e := List.getElem?_eq_getElem h9
  cases sgn with
  | true =>
    show ((45 :: (c :: r)) ++ rest)[1 + 9]? = _
    rw [List.getElem?_append_left (by rw [List.length_cons]; omega)]
    exact h9e
  | false =>
    show ((c :: r) ++ rest)[0 + 9]? = _
    rw [List.getElem?_append_left (by omega)]
    exact h9e
theorem great_len {sgn : Bool} {n : Nat} (h1 : 10 ^ 9 ≤ n) (h2 : n < 10 ^ 10) : (greatL sgn n).length = (if sgn then 1 else 0) + 10 := by
  unfold greatL
  rw [List.length_append, num_len10 h1 h2]
  cases sgn <;> rfl
theorem great_free {sgn : Bool} {n c : Nat} (h : c ∈ greatL sgn n) : c = 45 ∨ isFig c = true := by
  unfold greatL at h
  rcases List.mem_append.mp h with q | q
  · cases sgn with
    | true => exact .inl (List.mem_singleton.mp q)
    | false => cases q
  · exact .inr (num_digits _ c q)
theorem fig_ne47 {c : Nat} (h : c = 45 ∨ isFig c = true) : c ≠ 47 := fun q => by
  subst q
  rcases h with h | h
  · cases h
  · exact absurd h (by decide)
theorem fig_not {c : Nat} (h : isFig c = true) : c ≠ 47 ∧ c ≠ 32 := ⟨fun q => by subst q; exact absurd h (by decide), fun q => by subst q; exact absurd h (by decide)⟩
/-- the first number is too long -/
theorem read_great1 {al : List (List Nat)} {sgn : Bool} {n : Nat} {rest : List Nat} (h1 : 10 ^ 9 ≤ n) (h2 : n < 10 ^ 10) : readQ al (greatL sgn n ++ rest) = .inr ((if sgn then 1 else 0) + 9) := by
  obtain ⟨e1, c, e2, e3⟩ := numB_great (sgn := sgn) (rest := rest) h1 h2
  unfold readQ
  simp only [e1, e2]
  rw [if_pos (.inr fun q => (fig_not e3).1 (Option.some.inj q))]
/-- the second number is too long -/
theorem read_great2 {al : List (List Nat)} {sgn : Bool} {n : Nat} {E : Int} (hE : E.natAbs < 10 ^ 9) (h1 : 10 ^ 9 ≤ n) (h2 : n < 10 ^ 10) : readQ al ((intL E ++ [47]) ++ greatL sgn n) = .inr ((intL E).length + 1 + ((if sgn then 1 else 0) + 9)) := by
  obtain ⟨e1, c, e2, e3⟩ := numB_great (sgn := sgn) (rest := []) h1 h2
  rw [List.append_nil] at e1 e2
  have es : (intL E ++ [47]) ++ greatL sgn n = intL E ++ 47 :: greatL sgn n := by rw [List.append_assoc]; rfl
  rw [es]
  have n1 : numB (intL E ++ 47 :: greatL sgn n) 0 = ((intL E).length, true) := numB_int hE fun c h => by cases h; exact fig47
  have hd : (intL E ++ 47 :: greatL sgn n).drop ((intL E).length + 1) = greatL sgn n := by
    rw [List.drop_append, Nat.add_sub_cancel_left, List.drop_eq_nil_of_le (by omega)]
    rfl
  have n2 : numB (intL E ++ 47 :: greatL sgn n) ((intL E).length + 1) = ((if sgn then 1 else 0) + 9, true) := by rw [numB_drop, hd, e1]
  have t1 : (intL E ++ 47 :: greatL sgn n)[(intL E).length]? = some 47 := by
    rw [List.getElem?_append_right (Nat.le_refl _), Nat.sub_self]
    rfl
  have tz : (intL E ++ 47 :: greatL sgn n)[(intL E).length + 1 + ((if sgn then 1 else 0) + 9)]? = some c := by rw [← List.getElem?_drop, hd, e2]
  unfold readQ
  simp only [n1, n2, t1, tz]
  have h32 := (fig_not e3).2
  rw [if_neg (by simp), if_pos (by simp [h32])]
/-- where the stroke first stands -/
theorem slash_first (E : Int) (rest : List Nat) : ∃ r, Builtin.Str.occurrences (S (intL E ++ 47 :: rest)) (S [47]) 0 (S (intL E ++ 47 :: rest)).length 1 = (intL E).length :: r := by
  refine occ_first (by simp) ?_ fun k hk => ?_
  · unfold TL.pre
    rw [List.drop_left' rfl]
    rfl
  · unfold TL.pre
    rw [show ([47] : List Nat).length = 1 from rfl, drop_one, List.getElem?_append_left hk, List.getElem?_eq_getElem hk]
    have := fig_ne47 (int_free (List.getElem_mem hk))
    simpa using this
/-- where the great number first stands -/
theorem great_first1 {sgn : Bool} {n : Nat} {rest : List Nat} (h1 : 10 ^ 9 ≤ n) (h2 : n < 10 ^ 10) : ∃ r, Builtin.Str.occurrences (S (greatL sgn n ++ rest)) (S (greatL sgn n)) 0 (S (greatL sgn n ++ rest)).length 1 = 0 :: r := by
  have hl := great_len (sgn := sgn) h1 h2
  refine occ_first (fun q => by rw [q] at hl; simp at hl) ?_ fun k hk => absurd hk (Nat.not_lt_zero _)
  unfold TL.pre
  rw [List.drop_zero, List.take_left' rfl]
  exact beq_self_eq_true _
theorem great_first2 {sgn : Bool} {n : Nat} {E : Int} (hE : E.natAbs < 10 ^ 9) (h1 : 10 ^ 9 ≤ n) (h2 : n < 10 ^ 10) :
    ∃ r, Builtin.Str.occurrences (S ((intL E ++ [47]) ++ greatL sgn n)) (S (greatL sgn n)) 0 (S ((intL E ++ [47]) ++ greatL sgn n)).length 1 = ((intL E).length + 1) :: r := by
  have hl := great_len (sgn := sgn) h1 h2
  obtain ⟨il, il2⟩ := int_len hE
  have hlen : (intL E ++ [47]).length = (intL E).length + 1 := by rw [List.length_append]; rfl
  refine occ_first (fun q => by rw [q] at hl; simp at hl) ?_ fun k hk => ?_
  · unfold TL.pre
    rw [List.drop_left' hlen, List.take_length]
    exact beq_self_eq_true _
  · unfold TL.pre
    rw [Bool.eq_false_iff]
    intro h
    have h := beq_iff_eq.mp h
    by_cases hin : (intL E).length - k < (greatL sgn n).length
    · have e47 : (((intL E ++ [47]) ++ greatL sgn n).drop k)[(intL E).length - k]? = some 47 := by
        rw [List.getElem?_drop, show k + ((intL E).length - k) = (intL E).length by omega, List.append_assoc, List.getElem?_append_right (Nat.le_refl _), Nat.sub_self]
        rfl
      have e2 : (greatL sgn n)[(intL E).length - k]? = some 47 := by
        rw [← h, List.getElem?_take, if_pos hin]
        exact e47
      exact fig_ne47 (great_free (List.mem_of_getElem? e2)) rfl
    · have hk0 : k = 0 := by cases sgn <;> simp at hl <;> omega
      have hs : sgn = false := by cases sgn with | true => simp at hl; omega | false => rfl
      subst hk0 hs
      have hneg : E < 0 := Int.not_le.mp fun q => by have := il2 q; simp at hl; omega
      have e0 : (greatL false n)[0]? = some 45 := by
        rw [← h, List.drop_zero, List.getElem?_take, if_pos (by rw [hl]; decide)]
        unfold intL
        rw [if_pos hneg]
        rfl
      obtain ⟨c, r, e, hc⟩ := num_head n (by omega)
      have hf := num_digits n c (by rw [e]; exact List.mem_cons_self)
      unfold greatL at e0
      rw [e] at e0
      cases e0
      exact absurd hf (by decide)
end

end K14

set_option Elab.async false
set_option linter.all false
set_option maxRecDepth 100000
set_option maxHeartbeats 2000000
namespace K14
open PySem L2 Lay RZ SkE SX
/-! ### reading steps over trees -/
local macro_rules | `(tactic| walk_at "d") => `(tactic| try simp -implicitDefEqProofs only [cxK, noxK, wishK, startD, startI, List.map_cons, List.map_nil, List.length_cons, List.length_nil, List.length_singleton, Nat.zero_add, Nat.reduceAdd, Nat.reduceSub, Nat.add_one_sub_one, List.replicate_succ, List.replicate_zero, List.cons_append, List.nil_append, List.append_nil,
  ap_dVar, ap_dPeek, ap_dC, ap_dOp, ap_dTest, ap_dChain, ap_dTru, ap_dAndB, ap_dOrB, ap_dNotB, ap_dAnd, ap_dOr, ap_dNot, ap_dNil, ap_dCons, ap_dTup, ap_dLst, ap_dLet, ap_dSized, ap_dUn, ap_dNoPart, ap_dPart, ap_dSl, ap_dFn, ap_dMt, ap_dMt0, ap_dFs, ap_dFmt, ap_dJoin, ap_dNext, ap_dSeq, ap_dDrop, ap_dRet, ap_dIf, ap_dAsg, ap_dSet, ap_dOwn, ap_dAppend, ap_dAug, ap_dFldS, ap_dPar, ap_dPar3, ap_dIt, ap_dItA, ap_dFor, ap_dLc, ap_dYes, ap_dCall, ap_dCall0, ap_dCallKw, ap_dCallKw0, ap_dMeth, ap_dMeth0, ap_dMethKw, ap_dOne, ap_dFmtO, ap_dEqO, ap_dReqO, ap_dMake, ap_dMake0, ap_dMakeKw, ap_dMakeKw0, ap_dRaise, ap_dPair, ap_dCat, ex_obj1, ex_obj2, ex_ins1, ex_ins2, ex_str, ex_own, ex_val, ap_ix0, ap_ix1, ap_ix2, e_lenOk, e_isStr, le_sz0, le_sz1, le_sz2, le_sz3, le_sz4, le_sz5, le_sz6, le_sz7, le_sz8, ap_dIfE, ap_isD, ap_in1, ap_in2, ap_in3, ap_isi, ap_sum, ap_any, ap_dJs0, ap_dJs1, ap_dgName, ap_dgTup, ap_dgCons, ap_dgNil, ap_dTry, ap_dXf, e_tru1, e_tru2, e_tru3, e_tru4, e_tru5, e_tru6, e_tru7, e_fmtD1, e_fmtD2, e_iterD1, e_iterD2, e_iterD3, e_iterD4, e_addD1, e_addD2, e_addD3, e_addD4, e_subD1, e_mulD1, e_mulD2, e_mulD3, e_fdivD1, e_modD1, e_powD1, e_cmpD1, e_cmpD2, e_eqD1, e_eqD2, e_eqD3, e_eqD4, e_eqD5, e_eqD6, e_eqD7, e_eqD8, e_eqD9, e_eqD10, e_eqD11, e_eqD12, e_eqD13, e_eqD14, e_isNonD1, e_negD1, e_ixD1, e_ixD2, e_ixD3, e_ixD4, e_slD1, e_slD2, e_slD3, e_slD4, e_lenD1, e_lenD2, e_lenD3, e_lenD4, e_absD1, e_mmD1, e_intD1, e_intD2, e_intD3, e_strD1, e_strD2, e_tupleD1, e_tupleD2, e_tupleD3, e_listD1, e_listD2, e_listD3, e_splitD1, e_joinD1, e_joinD2, e_str1D1, e_iaddD1, e_iaddD2, e_imulD1, e_ifdivD1, e_enumD1, e_enumD2, e_zipF1, e_zipF2, e_rng11, e_rng21, e_rng31, e_fldD1, e_dixD1, e_dixD2, e_revSD1, e_catD1, ap_dTryK, ap_dSetX, kx_any, kx_val, kx_own, kx_exc, e_xfD, e_nonX, e_rngW, ap_dExtend, e_extD, ap_best, ap_dItR, e_revF1, e_revF2, e_revF3, ap_dTryN, ap_dRaiseU, ap_dSplitN, e_splitN, ap_dSetIx, e_setD, e_zipG, ap_dTupO, e_caseD, e_rngS, e_enumG, ap_dInO, ap_dPopSet, e_popD, ap_dAppPop, ap_dPairON, ap_dListN, e_listN1, e_listN2, e_listN3, e_listN4, e_isB, ap_dIsX, ap_dgLst, ap_dReprT, ap_dBoolO, ap_dEqG, e_shlD1, e_eqE, ap_dPar3O, ap_bestT, ap_dPar3E, e_kin, e_kix, e_index, ltD, leD, gtD, geD, minD, maxD, wipeD,
  List.set_cons_zero, List.set_cons_succ, List.getElem?_cons_zero, List.getElem?_cons_succ, List.length_set, if_true, if_false, Bool.false_eq_true, reduceIte, id, Bool.not_true, Bool.not_false, true_and, and_true, List.zip_cons_cons, List.zip_nil_right, List.zip_nil_left, reduceCtorEq, Option.some.injEq,
  Nat.reduceLT, Nat.reduceLeDiff, Nat.reduceEqDiff, and_self, ite_self, decide_true, decide_false, eq_self])
local macro_rules | `(tactic| walk_at "ds") => `(tactic| first | rfl | decide | assumption | omega | exact Nat.le_of_ble_eq_true rfl)

section
variable {P : Program} {w : World} {K : PySem.W.Frag} {mg : Str → Option Value} {base : Heap} {f : Addr} {fd : FuncData} {CG CB CS CQ : Addr}
@[irreducible] def spSigs : PSp := fun ds z R _ => ∃ l al lev x y, ds = [.lst (strsD al), .int (lev : Nat), .int x, .int y] ∧ GOk l al ∧ lev ≤ al.length ∧ x.natAbs < 2 ^ 200 ∧ y.natAbs < 2 ^ 200 ∧ R (.tup [.str (sheetQ al lev x y), .str (S (signsQ al lev x y))]) z
theorem spSigs_of  {ds : List D} {z : Z} {R : D → Z → Prop} {E : PX} (h_ : ∃ l al lev x y, ds = [.lst (strsD al), .int (lev : Nat), .int x, .int y] ∧ GOk l al ∧ lev ≤ al.length ∧ x.natAbs < 2 ^ 200 ∧ y.natAbs < 2 ^ 200 ∧ R (.tup [.str (sheetQ al lev x y), .str (S (signsQ al lev x y))]) z) : spSigs ds z R E := by unfold spSigs; exact h_
theorem spSigs_un  {ds : List D} {z : Z} {R : D → Z → Prop} {E : PX} (h_ : spSigs ds z R E) : ∃ l al lev x y, ds = [.lst (strsD al), .int (lev : Nat), .int x, .int y] ∧ GOk l al ∧ lev ≤ al.length ∧ x.natAbs < 2 ^ 200 ∧ y.natAbs < 2 ^ 200 ∧ R (.tup [.str (sheetQ al lev x y), .str (S (signsQ al lev x y))]) z := by unfold spSigs at h_; exact h_
theorem empty_cat (a : Str) : Str.empty ++ a = a := by
  show (⟨#[] ++ a.cps⟩ : Str) = a
  rw [Array.empty_append]
abbrev s_signs : Stmt := (top 26)
abbrev signs.N : List Str := ["_law_signs_here", "_law_deep", "_law_x", "_law_y", "_law_told", "_law_one"]
abbrev signs.ps : List Str := ["_law_signs_here", "_law_deep", "_law_x", "_law_y"]
theorem sc_signs : FnScope signs.N signs.ps (defScope s_signs) := ⟨rfl, rfl, rfl, by decide +kernel, rfl, by decide +kernel, by decide +kernel⟩
theorem ok_sigs (F : Fun K "_law_signs" "_law_signs" s_signs f fd) (T : T14 mg) : FnG P w K mg base CX0 1 f fd signs.ps (lift K spSigs) := by
  refine dbody F sc_signs (fun ds z R RX h => ?_) fun cdv A outer s H E hr hg => ⟨_, (dss_cons (ds_set (i := 4) sc_signs.nd rfl (Or.inl rfl) de_str)
      (dss_cons (ds_for PassesOwn.never rfl (di_rev (by rfl) T.b_reversed (de_slice sd_sl (dp_var 0) do_none (do_some (de_var 1)))) (dg_name (i := 5) sc_signs.nd rfl (Or.inl rfl)) (dss_cons (ds_set (i := 4) sc_signs.nd rfl (Or.inl rfl) (de_op od_add (dp_of (de_op od_add (dp_of (de_ix od_ix (dp_var 5) (dp_of (de_op od_mod (dp_var 2) (dp_of (de_fn cd_len (by rfl) T.b_len (by decide +kernel) (da_cons (dp_var 5) da_nil))))) (fun _ _ => rfl))) (dp_of (de_ix od_ix (dp_var 5) (dp_of (de_op od_mod (dp_var 3) (dp_of (de_fn cd_len (by rfl) T.b_len (by decide +kernel) (da_cons (dp_var 5) da_nil))))) (fun _ _ => rfl))))) (dp_var 4)))
      (dss_one (ds_par (i := 2) (j := 3) rfl sc_signs.nd rfl rfl (by decide) rfl rfl (das_cons (de_op od_fdiv (dp_var 2) (dp_of (de_fn cd_len (by rfl) T.b_len (by decide +kernel) (da_cons (dp_var 5) da_nil)))) (das_cons (de_op od_fdiv (dp_var 3) (dp_of (de_fn cd_len (by rfl) T.b_len (by decide +kernel) (da_cons (dp_var 5) da_nil)))) das_nil)) (by rfl)))))
      (dss_one (ds_ret (de_tup (das_cons (de_op od_add (dp_of (de_op od_add (dp_of (de_ty cd_str (by rfl) T.b_str (by decide +kernel) (da_cons (dp_var 2) da_nil))) (dp_of de_str))) (dp_of (de_ty cd_str (by rfl) T.b_str (by decide +kernel) (da_cons (dp_var 3) da_nil)))) (das_cons (de_var 4) das_nil))))))), fun ds z R RX h => ?_⟩
  · obtain ⟨l, al, lev, x, y, rfl, _⟩ := spSigs_un h
    rfl
  · obtain ⟨l, al, lev, x, y, rfl, g, hl, hx, hy, k⟩ := spSigs_un h
    have hm := g.many
    walk_at "d"
    rw [cutL_take, show (strsD al).take lev = strsD (al.take lev) from List.map_take.symm]
    refine forD_inv (fun i ρ z' => ∃ a, ρ = [.val (.lst (strsD al)), .val (.int lev), .val (.int (wheel al lev x y i).2.1), .val (.int (wheel al lev x y i).2.2), .val (.str (S (wheel al lev x y i).1)), a] ∧ z' = z) ⟨_, rfl, rfl⟩ ?_ ?_
    · rintro i d ρ z' hd ⟨a0, rfl, rfl⟩
      have hi := lt_of_get hd
      rw [List.length_reverse, strsD_len, List.length_take, Nat.min_eq_left hl] at hi
      rw [List.getElem?_reverse (by rw [strsD_len, List.length_take, Nat.min_eq_left hl]; exact hi), strsD_len, List.length_take, Nat.min_eq_left hl] at hd
      unfold strsD at hd
      rw [List.getElem?_map, List.getElem?_take, if_pos (by omega)] at hd
      obtain ⟨a, ea, rfl⟩ := Option.map_eq_some_iff.mp hd
      have ha := g.size (List.mem_of_getElem? ea)
      walk_at "d"
      obtain ⟨b1, b2, b3⟩ := wheel_bd al lev x y i
      have hSa : (S a).length ≤ sizeLine := by rw [S_len]; exact Nat.le_trans ha.2 (by decide)
      have hpos : (0 : Int) < (a.length : Int) := by omega
      rw [S_len] at hSa
      rw [S_len]
      have hw : wheel al lev x y (i + 1) = (((a[((wheel al lev x y i).2.1 % a.length).toNat]?).getD 0) :: ((a[((wheel al lev x y i).2.2 % a.length).toNat]?).getD 0) :: (wheel al lev x y i).1, (wheel al lev x y i).2.1 / a.length, (wheel al lev x y i).2.2 / a.length) := by
        rw [show lev - 1 - i = lev - i - 1 by omega] at ea
        simp only [wheel, ea, Option.getD_some]
      have hlog : (a.length : Int).natAbs.log2 < 9000 := Nat.lt_of_lt_of_le (log_small (i := (a.length : Int)) (k := 100) (by omega) (by decide) (by decide)) (by decide)
      refine ⟨hSa, hpos, hSa, _, at_mod (by omega) _, hSa, hpos, hSa, _, at_mod (by omega) _, by show 1 + 1 ≤ sizeLine; decide, ?_⟩
      rw [hw]
      generalize ((a[((wheel al lev x y i).2.1 % a.length).toNat]?).getD 0) = c1
      generalize ((a[((wheel al lev x y i).2.2 % a.length).toNat]?).getD 0) = c2
      have hS : (⟨#[c1]⟩ ++ ⟨#[c2]⟩ : Str) ++ S (wheel al lev x y i).1 = S (c1 :: c2 :: (wheel al lev x y i).1) := by
        show S [c1] ++ S [c2] ++ S (wheel al lev x y i).1 = _
        rw [S_cat, S_cat]
        rfl
      rw [hS]
      simp only [if_pos hpos]
      refine ⟨?_, hSa, hlog, hSa, hlog, _, rfl⟩
      have q : (S (wheel al lev x y i).1).length = 2 * i := by rw [S_len]; exact b3
      rw [q]
      exact Nat.le_trans (show 2 + 2 * i ≤ 12 by omega) (by decide)
    · rintro ρ z' ⟨a0, rfl, rfl⟩
      rw [List.length_reverse, strsD_len, List.length_take, Nat.min_eq_left hl]
      walk_at "d"
      obtain ⟨b1, b2, b3⟩ := wheel_bd al lev x y lev
      have l1 := log_small (i := (wheel al lev x y lev).2.1) (k := 200) (Nat.lt_of_le_of_lt b1 hx) (by decide) (by decide)
      have l2 := log_small (i := (wheel al lev x y lev).2.2) (k := 200) (Nat.lt_of_le_of_lt b2 hy) (by decide) (by decide)
      have t1 := PyProof.Rows.int_text_len_1921 l1
      have t2 := PyProof.Rows.int_text_len_1921 l2
      have hs : (Str.ofString "/").length = 1 := by decide +kernel
      have hz : 6000 ≤ sizeLine := by decide
      refine ⟨l1, by omega, l2, by rw [cat_len]; omega, ?_⟩
      unfold sheetQ at k
      rw [empty_cat] at k
      exact k
theorem use_sigs {l : List Nat} {al : List (List Nat)} {i x y : Int} (lev : Nat) {z : Z} {R : D → Z → Prop} {E : PX} (hi : i = (lev : Int)) (g : GOk l al) (hl : lev ≤ al.length) (hx : x.natAbs < 2 ^ 200) (hy : y.natAbs < 2 ^ 200)
    (k : R (.tup [.str (sheetQ al lev x y), .str (S (signsQ al lev x y))]) z) : spSigs [.lst (strsD al), .int i, .int x, .int y] z R E := by
  subst hi
  exact spSigs_of ⟨l, al, lev, x, y, rfl, g, hl, hx, hy, k⟩
end

theorem pickG {xs : List D} {i : Int} {Pd : D → Prop} {k : D → Prop} (h0 : 0 ≤ i) (h1 : i < xs.length) (ha : ∀ d ∈ xs, Pd d) (hk : ∀ d, Pd d → k d) : ∃ d, atI xs i = some d ∧ k d := by
  obtain ⟨d, e, m⟩ := atI_mem h0 h1
  exact ⟨d, e, hk d (ha d m)⟩
theorem pickI {xs : List D} {i : Int} {B : Nat} {k : D → Prop} (h0 : 0 ≤ i) (h1 : i < xs.length) (ha : ∀ d ∈ xs, ∃ n : Int, d = .int n ∧ n.natAbs < B) (hk : ∀ n : Int, n.natAbs < B → k (.int n)) : ∃ d, atI xs i = some d ∧ k d := by
  obtain ⟨d, e, m⟩ := atI_mem h0 h1
  obtain ⟨z, rfl, hz⟩ := ha d m
  exact ⟨_, e, hk z hz⟩

section
variable {P : Program} {w : World} {K : PySem.W.Frag} {mg : Str → Option Value} {base : Heap} {f : Addr} {fd : FuncData} {CG CB CE CS CQ CU CM CD CC CA CR CN CF : Addr}
theorem kb_read_square_0_text_grid {K : PySem.W.Frag} {f : Addr} {fd : FuncData} (F : Fun K "read_square" "read_square" s_read_square f fd) : KwB K fd read_square.ps 0 ["text", "grid"] (fun us ws => match us, ws with | [], [w0, w1] => [w1, w0] | _, _ => []) (fun us ws => match us, ws with | [], [w0, w1] => [w1, w0] | _, _ => []) := by
  obtain ⟨oc, od, kV, doc, pm, an, cdv, ct, osl, rfl, lk, hcd⟩ := F.ex
  refine ⟨fun s us ws _ h1 h2 => ?_, fun vs zs us ws h1 h2 r1 r2 => ?_⟩
  · match us, ws, h1, h2 with
    | [], [w0, w1], _, _ => exact .of_eq rfl
  · match vs, zs, us, ws, h1, h2, r1, r2 with
    | [], [z0, z1], [], [w0, w1], _, _, .nil, .cons q0 (.cons q1 (.nil)) => exact .cons q1 (.cons q0 (.nil))
theorem kd_read_square_0_text_grid : KwD 0 (List.length ["text", "grid"]) (fun us ws => match us, ws with | [], [w0, w1] => [w1, w0] | _, _ => []) (fun us ws => match us, ws with | [], [w0, w1] => [w1, w0] | _, _ => []) := fun K N H ds es vs zs h1 h2 r q => by
  match ds, es, vs, zs, h1, h2, Reps.length r, Reps.length q with
  | [], [e0, e1], [], [z0, z1], _, _, _, _ =>
      simp only [Reps, List.cons.injEq] at r q
      obtain ⟨_, _, ⟨eq0, tq0⟩, q0, q⟩ := q
      subst eq0 tq0
      simp only [List.cons.injEq] at q
      obtain ⟨_, _, ⟨eq1, tq1⟩, q1, q⟩ := q
      subst eq1 tq1
      exact (Reps.cons q1 (Reps.cons q0 Reps.nil))
theorem tens : ∀ n : Fin 9, intText? (Str.ofString "1" ++ Txt.mul (Str.ofString "0") ((n.val : Nat) : Int)) = some ((10 ^ n.val : Nat) : Int) ∧ (Str.ofString "1" ++ Txt.mul (Str.ofString "0") ((n.val : Nat) : Int)).length ≤ 640 ∧ (Txt.mul (Str.ofString "0") ((n.val : Nat) : Int)).length ≤ 640 := by decide +kernel
theorem nines : ∀ n : Fin 9, intText? (Txt.mul (Str.ofString "9") (((n.val + 1 : Nat) : Nat) : Int)) = some ((10 ^ (n.val + 1) - 1 : Nat) : Int) ∧ (Txt.mul (Str.ofString "9") (((n.val + 1 : Nat) : Nat) : Int)).length ≤ 640 := by decide +kernel
@[irreducible] def spFig : PSp := fun ds z R _ => ∃ (p : Addr) (c : Int), ds = [.adr p] ∧ z = ⟨some p, c⟩ ∧ c ≤ 900000 ∧ ∀ i : Int, i.natAbs < 10 ^ 9 → R (.int i) ⟨some p, c + 5⟩
theorem spFig_of  {ds : List D} {z : Z} {R : D → Z → Prop} {E : PX} (h_ : ∃ (p : Addr) (c : Int), ds = [.adr p] ∧ z = ⟨some p, c⟩ ∧ c ≤ 900000 ∧ ∀ i : Int, i.natAbs < 10 ^ 9 → R (.int i) ⟨some p, c + 5⟩) : spFig ds z R E := by unfold spFig; exact h_
theorem spFig_un  {ds : List D} {z : Z} {R : D → Z → Prop} {E : PX} (h_ : spFig ds z R E) : ∃ (p : Addr) (c : Int), ds = [.adr p] ∧ z = ⟨some p, c⟩ ∧ c ≤ 900000 ∧ ∀ i : Int, i.natAbs < 10 ^ 9 → R (.int i) ⟨some p, c + 5⟩ := by unfold spFig at h_; exact h_
abbrev s_figures : Stmt := (top 27)
abbrev figures.N : List Str := ["_law_pot", "_law_ten", "_law_nine", "_law_number"]
abbrev figures.ps : List Str := ["_law_pot"]
theorem sc_figures : FnScope figures.N figures.ps (defScope s_figures) := ⟨rfl, rfl, rfl, by decide +kernel, rfl, by decide +kernel, by decide +kernel⟩
theorem ok_figures (F : Fun K "_law_figures" "_law_figures" s_figures f fd) (T : T14 mg) (C_draw : Callee P w K mg base CX0 1 "_law_draw" s_draw draw.ps (lift K spDraw)) : FnG P w K mg base CX0 2 f fd figures.ps (lift K spFig) := by
  refine dbody F sc_figures (fun ds z R RX h => ?_) fun cdv A outer s H E hr hg => ⟨_, (dss_cons (ds_par (i := 1) (j := 2) rfl sc_figures.nd rfl rfl (by decide) rfl rfl (das_cons (de_ty cd_int (by rfl) T.b_int (by decide +kernel) (da_cons (dp_of (de_op od_add (dp_of de_str) (dp_of (de_op od_mul (dp_of de_str) (dp_of (C_draw.d0 rfl hr hg (atAll pass0) (das_cons (de_var 0) (das_cons de_int das_nil)))))))) da_nil)) (das_cons (de_ty cd_int (by rfl) T.b_int (by decide +kernel) (da_cons (dp_of (de_op od_mul (dp_of de_str) (dp_of (de_op od_add (dp_of de_int) (dp_of (C_draw.d0 rfl hr hg (atAll pass0) (das_cons (de_var 0) (das_cons de_int das_nil)))))))) da_nil)) das_nil)) (by rfl))
      (dss_cons (ds_set (i := 3) sc_figures.nd rfl (Or.inl rfl) (de_ix od_ix (dp_of (de_new (dn_lst (das_cons de_int (das_cons de_int (das_cons (de_var 1) (das_cons (de_var 2) (das_cons (C_draw.d0 rfl hr hg (atAll pass0) (das_cons (de_var 0) (das_cons (de_op od_pow (dp_of de_int) (dp_of de_int)) das_nil))) das_nil)))))))) (dp_of (C_draw.d0 rfl hr hg (atAll pass0) (das_cons (de_var 0) (das_cons de_int das_nil)))) (fun _ _ => rfl)))
      (dss_one (ds_ret (de_ifExp (dt_cmp (od_eq hr.units) (dp_of (C_draw.d0 rfl hr hg (atAll pass0) (das_cons (de_var 0) (das_cons de_int das_nil)))) (dp_of de_int) (nomark _)) (de_var 3) (de_op od_sub (dp_of de_int) (dp_var 3))))))), fun ds z R RX h => ?_⟩
  · obtain ⟨p, c, rfl, _⟩ := spFig_un h
    rfl
  · obtain ⟨p, c, rfl, rfl, hc, k⟩ := spFig_un h
    walk_at "d"
    refine use_draw (by omega) (by decide) (by decide) fun a ha0 ha1 => ?_
    obtain ⟨a, rfl⟩ : ∃ m : Nat, a = (m : Int) := ⟨a.toNat, (Int.toNat_of_nonneg ha0).symm⟩
    have ha9 : a < 9 := by omega
    obtain ⟨t1, t2, t3⟩ := tens ⟨a, ha9⟩
    simp only at t1 t2 t3
    walk_at "d"
    have hz : (1000 : Nat) ≤ sizeLine := by decide
    have l1 : (Str.ofString "1").length = 1 := by decide +kernel
    refine ⟨mulok_small (by omega) (by omega) (by decide +kernel), by omega, _, t1, t2, ?_⟩
    refine use_draw (by omega) (by decide) (by decide) fun b hb0 hb1 => ?_
    obtain ⟨b, rfl⟩ : ∃ m : Nat, b = (m : Int) := ⟨b.toNat, (Int.toNat_of_nonneg hb0).symm⟩
    have hb9 : b < 9 := by omega
    obtain ⟨n1, n2⟩ := nines ⟨b, hb9⟩
    simp only at n1 n2
    walk_at "d"
    rw [show (1 : Int) + (b : Int) = ((b + 1 : Nat) : Int) by omega]
    refine ⟨mulok_small (by omega) (by omega) (by decide +kernel), _, n1, n2, ?_⟩
    walk_at "d"
    refine ⟨⟨by decide, by decide, by decide⟩, ?_⟩
    rw [show (10 : Int) ^ Int.toNat 9 = 1000000000 from by decide]
    refine use_draw (by omega) (by decide) (by decide) fun v hv0 hv1 => ?_
    refine use_draw (by omega) (by decide) (by decide) fun j hj0 hj1 => ?_
    have p1 : 10 ^ a ≤ 10 ^ 8 := Nat.pow_le_pow_right (by decide) (by omega)
    have p2 : 10 ^ (b + 1) ≤ 10 ^ 9 := Nat.pow_le_pow_right (by decide) (by omega)
    have p3 : 0 < 10 ^ (b + 1) := Nat.pow_pos (by decide)
    generalize 10 ^ a = A at p1 ⊢
    generalize 10 ^ (b + 1) = B at p2 p3 ⊢
    refine pickI (B := 10 ^ 9) hj0 (show j < ((5 : Nat) : Int) from hj1) (List.forall_mem_cons.mpr ⟨⟨_, rfl, by decide⟩, List.forall_mem_cons.mpr ⟨⟨_, rfl, by decide⟩, List.forall_mem_cons.mpr ⟨⟨_, rfl, by omega⟩, List.forall_mem_cons.mpr ⟨⟨_, rfl, by omega⟩, List.forall_mem_cons.mpr ⟨⟨_, rfl, by omega⟩, nofun⟩⟩⟩⟩⟩) fun x hx => ?_
    refine use_draw (by omega) (by decide) (by decide) fun g hg0 hg1 => ?_
    walk_at "d"
    have ec : c + 1 + 1 + 1 + 1 + 1 = c + 5 := by omega
    rw [ec]
    refine iteD (fun _ => k x hx) (fun _ => k (0 - x) (by omega))
@[irreducible] def spLRead (CS CG : Addr) : PSp := fun ds z R _ => ∃ (p : Addr) (c : Int) (l : List Nat) (al : List (List Nat)) (t : List Nat) (lev : Nat) (e n : Int), ds = [.adr p, gridD CG l al, .str (S t)] ∧ z = ⟨some p, c⟩ ∧ c ≤ 900000 ∧ GOk l al ∧ t.length ≤ 90000 ∧ readQ al t = .inl (lev, e, n) ∧ R (sqD CS CG l al lev e n) ⟨some p, c + 1⟩
theorem spLRead_of {CS CG : Addr} {ds : List D} {z : Z} {R : D → Z → Prop} {E : PX} (h_ : ∃ (p : Addr) (c : Int) (l : List Nat) (al : List (List Nat)) (t : List Nat) (lev : Nat) (e n : Int), ds = [.adr p, gridD CG l al, .str (S t)] ∧ z = ⟨some p, c⟩ ∧ c ≤ 900000 ∧ GOk l al ∧ t.length ≤ 90000 ∧ readQ al t = .inl (lev, e, n) ∧ R (sqD CS CG l al lev e n) ⟨some p, c + 1⟩) : spLRead CS CG ds z R E := by unfold spLRead; exact h_
theorem spLRead_un {CS CG : Addr} {ds : List D} {z : Z} {R : D → Z → Prop} {E : PX} (h_ : spLRead CS CG ds z R E) : ∃ (p : Addr) (c : Int) (l : List Nat) (al : List (List Nat)) (t : List Nat) (lev : Nat) (e n : Int), ds = [.adr p, gridD CG l al, .str (S t)] ∧ z = ⟨some p, c⟩ ∧ c ≤ 900000 ∧ GOk l al ∧ t.length ≤ 90000 ∧ readQ al t = .inl (lev, e, n) ∧ R (sqD CS CG l al lev e n) ⟨some p, c + 1⟩ := by unfold spLRead at h_; exact h_
theorem use_read {l : List Nat} {al : List (List Nat)} {t : List Nat} {lev : Nat} {e n : Int} {z : Z} {R : D → Z → Prop} {E : PX} (g : GOk l al) (ht : t.length ≤ 90000) (h : readQ al t = .inl (lev, e, n)) (k : R (sqD CS CG l al lev e n) z) : spRead K CS CG CF [gridD CG l al, .str (S t)] z R E :=
  spRead_of ⟨l, al, _, rfl, g, .inl ⟨t, rfl, ht, fun lev' e' n' q _ _ _ => by rw [h] at q; cases q; exact k, fun i q => by rw [h] at q; cases q⟩⟩
abbrev s_read : Stmt := (top 28)
abbrev read.N : List Str := ["_law_pot", "_law_made", "_law_told"]
abbrev read.ps : List Str := ["_law_pot", "_law_made", "_law_told"]
theorem sc_read : FnScope read.N read.ps (defScope s_read) := ⟨rfl, rfl, rfl, by decide +kernel, rfl, by decide +kernel, by decide +kernel⟩
theorem ok_read (F : Fun K "_law_read" "_law_read" s_read f fd) (T : T14 mg) (C_draw : Callee P w K mg base CX0 1 "_law_draw" s_draw draw.ps (lift K spDraw)) (C_read_square : Callee P w K mg base (L2.CX P w) 7 "read_square" s_read_square read_square.ps (lift K (spRead K CS CG CF))) : FnG P w K mg base CX0 8 f fd read.ps (lift K (spLRead CS CG)) := by
  refine dbody F sc_read (fun ds z R RX h => ?_) fun cdv A outer s H E hr hg => ⟨_, (dss_cons (ds_if (dt_cmp (od_eq hr.units) (dp_of (C_draw.d0 rfl hr hg (atAll pass0) (das_cons (de_var 0) (das_cons de_int das_nil)))) (dp_of de_int) (nomark _)) (dss_one (ds_ret (C_read_square.d0 rfl hr hg (atAll passL) (das_cons (de_var 1) (das_cons (de_var 2) das_nil))))) dss_nil)
      (dss_one (ds_ret (C_read_square.dkw0X kd_read_square_0_text_grid (fun _ _ q => ⟨_, kb_read_square_0_text_grid q⟩) rfl hr hg (atAll passL) (dk_cons (de_var 2) (dk_cons (de_var 1) dk_nil)))))), fun ds z R RX h => ?_⟩
  · obtain ⟨p, c, l, al, t, lev, e, n, rfl, _⟩ := spLRead_un h
    rfl
  · obtain ⟨p, c, l, al, t, lev, e, n, rfl, rfl, hc, g, ht, hq, k⟩ := spLRead_un h
    walk_at "d"
    refine use_draw (by omega) (by decide) (by decide) fun a ha0 ha1 => ?_
    walk_at "d"
    first
      | exact use_read g ht hq k
      | exact iteD (fun _ => use_read g ht hq k) (fun _ => use_read g ht hq k)
@[irreducible] def spLAt (CG : Addr) : PSp := fun ds z R _ => ∃ (l : List Nat) (al : List (List Nat)) (t : List Nat) (i : Nat), ds = [gridD CG l al, .str (S t)] ∧ GOk l al ∧ t.length ≤ 90000 ∧ readQ al t = .inr i ∧ R (.int (i : Nat)) z
theorem spLAt_of {CG : Addr} {ds : List D} {z : Z} {R : D → Z → Prop} {E : PX} (h_ : ∃ (l : List Nat) (al : List (List Nat)) (t : List Nat) (i : Nat), ds = [gridD CG l al, .str (S t)] ∧ GOk l al ∧ t.length ≤ 90000 ∧ readQ al t = .inr i ∧ R (.int (i : Nat)) z) : spLAt CG ds z R E := by unfold spLAt; exact h_
theorem spLAt_un {CG : Addr} {ds : List D} {z : Z} {R : D → Z → Prop} {E : PX} (h_ : spLAt CG ds z R E) : ∃ (l : List Nat) (al : List (List Nat)) (t : List Nat) (i : Nat), ds = [gridD CG l al, .str (S t)] ∧ GOk l al ∧ t.length ≤ 90000 ∧ readQ al t = .inr i ∧ R (.int (i : Nat)) z := by unfold spLAt at h_; exact h_
abbrev s_at : Stmt := (top 29)
abbrev at.N : List Str := ["_law_made", "_law_told", "_law_at_here", "e"]
abbrev at.ps : List Str := ["_law_made", "_law_told"]
theorem sc_at : FnScope at.N at.ps (defScope s_at) := ⟨rfl, rfl, rfl, by decide +kernel, rfl, by decide +kernel, by decide +kernel⟩
theorem ok_at (F : Fun K "_law_at" "_law_at" s_at f fd) (T : T14 mg) (X_NoReference : ExcOk P w K mg base "NoReference" CF ["text", "at"] NoReference_init.ps) (C_read_square : Callee P w K mg base (L2.CX P w) 7 "read_square" s_read_square read_square.ps (lift K (spRead K CS CG CF))) : FnG P w K mg base CX0 8 f fd at.ps (lift K (spLAt CG)) := by
  refine dbody F sc_at (fun ds z R RX h => ?_) fun cdv A outer s H E hr hg => ⟨_, (dss_cons (ds_set (i := 2) sc_at.nd rfl (Or.inl rfl) (de_neg (dp_of de_int)))
      (dss_cons (ds_try (i := 3) rfl rfl sc_at.nd rfl rfl ⟨rfl, by decide, Or.inl X_NoReference.mgx⟩ takes0 (fun W pn xe tk pw => by exact (dss_one (ds_expr (C_read_square.dE rfl hr hg (fun σ => passAt tk σ) (das_cons (de_var 0) (das_cons (de_var 1) das_nil)))))) (fun a oe cls d pn hz hf => by exact (dss_one (ds_set (i := 2) sc_at.nd rfl (Or.inl rfl) (de_ifExp (dt_cmp (od_eq hr.units) (dp_of (de_xf X_NoReference.xf (X_NoReference.no "text" (by simp)) hz hf (i := 3) rfl)) (dp_var 1) (nomark _)) (de_xf X_NoReference.xf (X_NoReference.no "at" (by simp)) hz hf (i := 3) rfl) (de_neg (dp_of de_int)))))))
      (dss_one (ds_ret (de_var 2))))), fun ds z R RX h => ?_⟩
  · obtain ⟨l, al, t, i, rfl, _⟩ := spLAt_un h
    rfl
  · obtain ⟨l, al, t, i, rfl, g, ht, hq, k⟩ := spLAt_un h
    walk_at "d"
    refine spRead_of ⟨l, al, _, rfl, g, .inl ⟨t, rfl, ht, (fun lev' e' n' q => by rw [hq] at q; cases q), fun j q => ?_⟩⟩
    rw [hq] at q
    cases q
    refine ⟨true, X_NoReference.te, fun _ a od ho => ?_, fun h => by cases h⟩
    have hod : od ≠ none := ho (List.cons_ne_nil _ _)
    refine ⟨rfl, hod, _, rfl, ?_⟩
    walk_at "d"
    refine ⟨hod, _, rfl, ?_⟩
    exact k
end

end K14

set_option Elab.async false
set_option linter.all false
set_option maxRecDepth 100000
set_option maxHeartbeats 2000000
namespace K14
open PySem L2 Lay RZ SkE SX
/-! ### reading steps over trees -/
local macro_rules | `(tactic| walk_at "d") => `(tactic| try simp -implicitDefEqProofs only [cxK, noxK, wishK, startD, startI, List.map_cons, List.map_nil, List.length_cons, List.length_nil, List.length_singleton, Nat.zero_add, Nat.reduceAdd, Nat.reduceSub, Nat.add_one_sub_one, List.replicate_succ, List.replicate_zero, List.cons_append, List.nil_append, List.append_nil,
  ap_dVar, ap_dPeek, ap_dC, ap_dOp, ap_dTest, ap_dChain, ap_dTru, ap_dAndB, ap_dOrB, ap_dNotB, ap_dAnd, ap_dOr, ap_dNot, ap_dNil, ap_dCons, ap_dTup, ap_dLst, ap_dLet, ap_dSized, ap_dUn, ap_dNoPart, ap_dPart, ap_dSl, ap_dFn, ap_dMt, ap_dMt0, ap_dFs, ap_dFmt, ap_dJoin, ap_dNext, ap_dSeq, ap_dDrop, ap_dRet, ap_dIf, ap_dAsg, ap_dSet, ap_dOwn, ap_dAppend, ap_dAug, ap_dFldS, ap_dPar, ap_dPar3, ap_dIt, ap_dItA, ap_dFor, ap_dLc, ap_dYes, ap_dCall, ap_dCall0, ap_dCallKw, ap_dCallKw0, ap_dMeth, ap_dMeth0, ap_dMethKw, ap_dOne, ap_dFmtO, ap_dEqO, ap_dReqO, ap_dMake, ap_dMake0, ap_dMakeKw, ap_dMakeKw0, ap_dRaise, ap_dPair, ap_dCat, ex_obj1, ex_obj2, ex_ins1, ex_ins2, ex_str, ex_own, ex_val, ap_ix0, ap_ix1, ap_ix2, e_lenOk, e_isStr, le_sz0, le_sz1, le_sz2, le_sz3, le_sz4, le_sz5, le_sz6, le_sz7, le_sz8, ap_dIfE, ap_isD, ap_in1, ap_in2, ap_in3, ap_isi, ap_sum, ap_any, ap_dJs0, ap_dJs1, ap_dgName, ap_dgTup, ap_dgCons, ap_dgNil, ap_dTry, ap_dXf, e_tru1, e_tru2, e_tru3, e_tru4, e_tru5, e_tru6, e_tru7, e_fmtD1, e_fmtD2, e_iterD1, e_iterD2, e_iterD3, e_iterD4, e_addD1, e_addD2, e_addD3, e_addD4, e_subD1, e_mulD1, e_mulD2, e_mulD3, e_fdivD1, e_modD1, e_powD1, e_cmpD1, e_cmpD2, e_eqD1, e_eqD2, e_eqD3, e_eqD4, e_eqD5, e_eqD6, e_eqD7, e_eqD8, e_eqD9, e_eqD10, e_eqD11, e_eqD12, e_eqD13, e_eqD14, e_isNonD1, e_negD1, e_ixD1, e_ixD2, e_ixD3, e_ixD4, e_slD1, e_slD2, e_slD3, e_slD4, e_lenD1, e_lenD2, e_lenD3, e_lenD4, e_absD1, e_mmD1, e_intD1, e_intD2, e_intD3, e_strD1, e_strD2, e_tupleD1, e_tupleD2, e_tupleD3, e_listD1, e_listD2, e_listD3, e_splitD1, e_joinD1, e_joinD2, e_str1D1, e_iaddD1, e_iaddD2, e_imulD1, e_ifdivD1, e_enumD1, e_enumD2, e_zipF1, e_zipF2, e_rng11, e_rng21, e_rng31, e_fldD1, e_dixD1, e_dixD2, e_revSD1, e_catD1, ap_dTryK, ap_dSetX, kx_any, kx_val, kx_own, kx_exc, e_xfD, e_nonX, e_rngW, ap_dExtend, e_extD, ap_best, ap_dItR, e_revF1, e_revF2, e_revF3, ap_dTryN, ap_dRaiseU, ap_dSplitN, e_splitN, ap_dSetIx, e_setD, e_zipG, ap_dTupO, e_caseD, e_rngS, e_enumG, ap_dInO, ap_dPopSet, e_popD, ap_dAppPop, ap_dPairON, ap_dListN, e_listN1, e_listN2, e_listN3, e_listN4, e_isB, ap_dIsX, ap_dgLst, ap_dReprT, ap_dBoolO, ap_dEqG, e_shlD1, e_eqE, ap_dPar3O, ap_bestT, ap_dPar3E, e_kin, e_kix, e_index, ltD, leD, gtD, geD, minD, maxD, wipeD,
  List.set_cons_zero, List.set_cons_succ, List.getElem?_cons_zero, List.getElem?_cons_succ, List.length_set, if_true, if_false, Bool.false_eq_true, reduceIte, id, Bool.not_true, Bool.not_false, true_and, and_true, List.zip_cons_cons, List.zip_nil_right, List.zip_nil_left, reduceCtorEq, Option.some.injEq,
  Nat.reduceLT, Nat.reduceLeDiff, Nat.reduceEqDiff, and_self, ite_self, decide_true, decide_false, eq_self])
local macro_rules | `(tactic| walk_at "ds") => `(tactic| first | rfl | decide | assumption | omega | exact Nat.le_of_ble_eq_true rfl)

section
variable {P : Program} {w : World} {K : PySem.W.Frag} {mg : Str → Option Value} {base : Heap} {f : Addr} {fd : FuncData} {CG CB CE CS CQ CU CM CD CC CA CR CN CF : Addr}
theorem use_sqEq {K : PySem.W.Frag} {CS CG : Addr} {l l2 : List Nat} {al al2 : List (List Nat)} {lev lev2 : Nat} {e n e2 n2 : Int} {z : Z} {R : D → Z → Prop} {E : PX} (hl : l.length ≤ 100000) (k : R (.bl (decide (l = l2 ∧ lev = lev2 ∧ e = e2 ∧ n = n2))) z) :
    spSqEq K CS CG [sqD CS CG l al lev e n, sqD CS CG l2 al2 lev2 e2 n2] z R E := spSqEq_of ⟨l, al, lev, e, n, _, rfl, hl, .inl ⟨l2, al2, lev2, e2, n2, rfl, k⟩⟩
theorem use_reprT {ns : List Int} {k : D → Prop} (h : ∀ n ∈ ns, n.natAbs.log2 < 1920) (hl : ns.length ≤ 100) (q : k (.str (showD (.tup (ns.map .int))))) : reprD [.tup (ns.map .int)] k := by
  have b := bulk_ints ns
  have d := deep_ints ns
  exact use_repr (by rw [okD]; exact ok_ints h) (by rw [bulkD]; omega) (by rw [deepD]; omega) q
theorem sheet_S {l : List Nat} {al : List (List Nat)} {lev : Nat} (g : GOk l al) (hl : lev ≤ al.length) (x y : Int) : sheetQ al lev x y = S (intL (upQ al lev x 0) ++ 47 :: intL (upQ al lev y 0)) := by
  obtain ⟨h1, h2⟩ := wheel_up g hl x y lev (Nat.le_refl _)
  rw [Nat.sub_self] at h1 h2
  unfold sheetQ
  rw [h1, h2, int_S, int_S, show Str.ofString "/" = S [47] by decide +kernel, empty_cat, S_cat, S_cat]
  simp
theorem signs_len {al : List (List Nat)} {lev : Nat} {x y : Int} : (signsQ al lev x y).length = 2 * lev := (wheel_bd al lev x y lev).2.2
theorem str_S {l : List Nat} {al : List (List Nat)} {lev : Nat} (g : GOk l al) (hl : lev ≤ al.length) (x y : Int) : strQ al lev x y = S (refL (upQ al lev x 0) (upQ al lev y 0) (signsQ al lev x y)) := by
  have hn := signs_len (al := al) (lev := lev) (x := x) (y := y)
  unfold strQ refL
  by_cases h : lev = 0
  · have e : signsQ al lev x y = [] := List.length_eq_zero_iff.mp (by omega)
    rw [if_pos h, if_pos e, sheet_S g hl, List.append_nil]
  · have e : signsQ al lev x y ≠ [] := fun q => by rw [q] at hn; simp at hn; omega
    rw [if_neg h, if_neg e, sheet_S g hl, empty_cat, show Str.ofString " " = S [32] by decide +kernel, S_cat, S_cat]
    simp
theorem up_of {al : List (List Nat)} {lev : Nat} {E d : Int} (hd0 : 0 ≤ d) (hd1 : d < manyQ al 0 lev) : upQ al lev (E * manyQ al 0 lev + d) 0 = E := by
  unfold upQ
  rw [Int.add_comm, Int.add_mul_ediv_right _ _ (by omega), Int.ediv_eq_zero_of_lt hd0 hd1, Int.zero_add]
@[irreducible] def spRight14 (CG : Addr) : PSp := fun ds z R _ => ∃ (p : Addr) (c : Int) (l : List Nat) (al : List (List Nat)) (lev : Nat), ds = [.adr p, gridD CG l al, .lst (strsD al), .int (lev : Nat)] ∧ z = ⟨some p, c⟩ ∧ c ≤ 800000 ∧ GOk l al ∧ lev ≤ al.length ∧ ∀ c', c' ≤ c + 60 → R (.bl true) ⟨some p, c'⟩
theorem spRight14_of {CG : Addr} {ds : List D} {z : Z} {R : D → Z → Prop} {E : PX} (h_ : ∃ (p : Addr) (c : Int) (l : List Nat) (al : List (List Nat)) (lev : Nat), ds = [.adr p, gridD CG l al, .lst (strsD al), .int (lev : Nat)] ∧ z = ⟨some p, c⟩ ∧ c ≤ 800000 ∧ GOk l al ∧ lev ≤ al.length ∧ ∀ c', c' ≤ c + 60 → R (.bl true) ⟨some p, c'⟩) : spRight14 CG ds z R E := by unfold spRight14; exact h_
theorem spRight14_un {CG : Addr} {ds : List D} {z : Z} {R : D → Z → Prop} {E : PX} (h_ : spRight14 CG ds z R E) : ∃ (p : Addr) (c : Int) (l : List Nat) (al : List (List Nat)) (lev : Nat), ds = [.adr p, gridD CG l al, .lst (strsD al), .int (lev : Nat)] ∧ z = ⟨some p, c⟩ ∧ c ≤ 800000 ∧ GOk l al ∧ lev ≤ al.length ∧ ∀ c', c' ≤ c + 60 → R (.bl true) ⟨some p, c'⟩ := by unfold spRight14 at h_; exact h_
abbrev s_right : Stmt := (top 30)
abbrev right.N : List Str := ["_law_pot", "_law_made", "_law_signs_here", "_law_deep", "_law_many", "_law_east", "_law_north", "_law_x", "_law_y", "_law_told", "_law_found", "_law_great", "_law_wrong"]
abbrev right.ps : List Str := ["_law_pot", "_law_made", "_law_signs_here", "_law_deep"]
theorem sc_right : FnScope right.N right.ps (defScope s_right) := ⟨rfl, rfl, rfl, by decide +kernel, rfl, by decide +kernel, by decide +kernel⟩
theorem ok_right (F : Fun K "_law_right" "_law_right" s_right f fd) (T : T14 mg) (O : Own K CS sqNs) (N_Square : NoNe K CS) (GF : GridFn P w K mg base CG CB) (C_draw : Callee P w K mg base CX0 1 "_law_draw" s_draw draw.ps (lift K spDraw)) (C_side : Callee P w K mg base CX0 1 "_law_side" s_side side.ps (lift K spLSide)) (C_figures : Callee P w K mg base CX0 2 "_law_figures" s_figures figures.ps (lift K spFig))
    (C_signs : Callee P w K mg base CX0 1 "_law_signs" s_signs signs.ps (lift K spSigs)) (C_read : Callee P w K mg base CX0 8 "_law_read" s_read read.ps (lift K (spLRead CS CG))) (C_at : Callee P w K mg base CX0 8 "_law_at" s_at at.ps (lift K (spLAt CG))) (C_read_square : Callee P w K mg base (L2.CX P w) 7 "read_square" s_read_square read_square.ps (lift K (spRead K CS CG CF)))
    (C_Square_eq : Method P w K mg base CX0 3 CS "__eq__" (dR s_Square_eq "__eq__" "Square.__eq__" K) Square_eq.ps (lift K (spSqEq K CS CG))) (C_Square_str : Method P w K mg base CX0 1 CS "__str__" (dR s_Square_str "__str__" "Square.__str__" K) Square_str.ps (lift K (spSqStr CS CG)))
    (C_Square_wider : Method P w K mg base (L2.CX P w) 6 CS "wider" (dR s_Square_wider "wider" "Square.wider" K) Square_wider.ps (lift K (spWider K CS CG CQ))) : FnG P w K mg base CX0 9 f fd right.ps (lift K (spRight14 CG)) := by
  obtain ⟨O_Grid, G_Grid, N_Grid, R_Grid, W_Grid, I_Grid, C_Grid, C_Grid_eq, C_Grid_len, C_Grid_str, C_Grid_repr, C_Grid_alphabet, C_Grid_cut, C_Grid_side⟩ := GF
  refine dbody F sc_right (fun ds z R RX h => ?_) fun cdv A outer s H E hr hg => ⟨_, (dss_cons (ds_set (i := 4) sc_right.nd rfl (Or.inl rfl) (de_op od_fdiv (dp_of (C_side.d0 rfl hr hg (atAll pass0) (das_cons (de_var 2) (das_cons de_int das_nil)))) (dp_of (C_side.d0 rfl hr hg (atAll pass0) (das_cons (de_var 2) (das_cons (de_var 3) das_nil))))))
      (dss_cons (ds_par (i := 5) (j := 6) rfl sc_right.nd rfl rfl (by decide) rfl rfl (das_cons (C_figures.d0 rfl hr hg (atAll pass0) (das_cons (de_var 0) das_nil)) (das_cons (C_figures.d0 rfl hr hg (atAll pass0) (das_cons (de_var 0) das_nil)) das_nil)) (by rfl))
      (dss_cons (ds_par (i := 7) (j := 8) rfl sc_right.nd rfl rfl (by decide) rfl rfl (das_cons (de_op od_add (dp_of (de_op od_mul (dp_var 5) (dp_var 4))) (dp_of (C_draw.d0 rfl hr hg (atAll pass0) (das_cons (de_var 0) (das_cons (de_var 4) das_nil))))) (das_cons (de_op od_add (dp_of (de_op od_mul (dp_var 6) (dp_var 4))) (dp_of (C_draw.d0 rfl hr hg (atAll pass0) (das_cons (de_var 0) (das_cons (de_var 4) das_nil))))) das_nil)) (by rfl))
      (dss_cons (ds_set (i := 9) sc_right.nd rfl (Or.inl rfl) (de_cut (de_ifExp (dt_cmp od_gt (dp_var 3) (dp_of de_int) (nomark _)) (de_mt PySem.F.slot_str_join PySem.F.type_str_join md_join (dp_of de_str) (da_cons (dp_of (C_signs.d0 rfl hr hg (atAll pass0) (das_cons (de_var 2) (das_cons (de_var 3) (das_cons (de_var 7) (das_cons (de_var 8) das_nil)))))) da_nil)) (de_ix od_ix (dp_of (C_signs.d0 rfl hr hg (atAll pass0) (das_cons (de_var 2) (das_cons (de_var 3) (das_cons (de_var 7) (das_cons (de_var 8) das_nil)))))) (dp_of de_int) (fun _ _ => rfl)))))
      (dss_cons (ds_set (i := 10) sc_right.nd rfl (Or.inl rfl) (C_read.d0 rfl hr hg (atAll pass0) (das_cons (de_var 0) (das_cons (de_var 1) (das_cons (de_var 9) das_nil)))))
      (dss_cons (ds_if (DWt.pt (dw_or (dt_cmp (od_ne hr.units) (dp_of (de_fn (cd_repr hg (room150 hr)) (by rfl) T.b_repr (by decide +kernel) (da_cons (dp_of (de_tup (das_cons (de_fldK (K := K) rfl (dp_var 10) rfl) (das_cons (de_fldK (K := K) rfl (dp_var 10) rfl) (das_cons (de_fldK (K := K) rfl (dp_var 10) rfl) das_nil))))) da_nil))) (dp_of (de_fn (cd_repr hg (room150 hr)) (by rfl) T.b_repr (by decide +kernel) (da_cons (dp_of (de_tup (das_cons (de_var 3) (das_cons (de_var 7) (das_cons (de_var 8) das_nil))))) da_nil))) (nomark _)) (dw_or1 (Method.tNeK (K := K) rfl C_Grid_eq N_Grid hr hg (de_fldK (K := K) rfl (dp_var 10) rfl) (de_var 1))))) (dss_one (ds_ret de_bl)) dss_nil)
      (dss_cons (ds_if (dt_cmp (od_ne hr.units) (dp_of (C_Square_str.dStr hr hg rfl T.b_str (de_var 10))) (dp_var 9) (nomark _)) (dss_one (ds_ret de_bl)) dss_nil)
      (dss_cons (ds_cut (ds_if (DWt.pt (dw_and (dt_cmp od_gt (dp_var 3) (dp_of de_int) (nomark _)) (dw_and1 (Method.tNeK (K := K) rfl C_Square_eq N_Square hr hg (C_read_square.d0 rfl hr hg (atAll passL) (das_cons (de_var 1) (das_cons (de_slice sd_sl (dp_var 9) do_none (do_some (de_neg (dp_of de_int)))) das_nil))) (C_Square_wider.d0 (de_var 10) hr hg (atAll passL) (das_cons (de_op od_sub (dp_var 3) (dp_of de_int)) das_nil)))))) (dss_one (ds_ret de_bl)) dss_nil))
      (dss_cons (ds_set (i := 11) sc_right.nd rfl (Or.inl rfl) (de_op od_add (dp_of (de_op od_mul (dp_of de_str) (dp_of (C_draw.d0 rfl hr hg (atAll pass0) (das_cons (de_var 0) (das_cons de_int das_nil)))))) (dp_of (de_ty cd_str (by rfl) T.b_str (by decide +kernel) (da_cons (dp_of (de_op od_add (dp_of (de_op od_pow (dp_of de_int) (dp_of de_int))) (dp_of (de_fn cd_abs (by rfl) T.b_abs (by decide +kernel) (da_cons (dp_var 5) da_nil))))) da_nil)))))
      (dss_cons (ds_set (i := 12) sc_right.nd rfl (Or.inl rfl) (de_ix od_ix (dp_of (de_new (dn_lst (das_cons (de_op od_add (dp_var 11) (dp_of (de_slice sd_sl (dp_var 9) (do_some (de_mt PySem.F.slot_str_index PySem.F.type_str_index md_index (dp_var 9) (da_cons (dp_of de_str) da_nil))) do_none))) (das_cons (de_op od_add (dp_of (de_slice sd_sl (dp_var 9) do_none (do_some (de_op od_add (dp_of (de_mt PySem.F.slot_str_index PySem.F.type_str_index md_index (dp_var 9) (da_cons (dp_of de_str) da_nil))) (dp_of de_int))))) (dp_var 11)) das_nil))))) (dp_of (C_draw.d0 rfl hr hg (atAll pass0) (das_cons (de_var 0) (das_cons de_int das_nil)))) (fun _ _ => rfl)))
      (dss_one (ds_ret (de_cmp (od_eq hr.units) (dp_of (C_at.d0 rfl hr hg (atAll pass0) (das_cons (de_var 1) (das_cons (de_var 12) das_nil)))) (dp_of (de_op od_sub (dp_of (de_op od_add (dp_of (de_mt PySem.F.slot_str_index PySem.F.type_str_index md_index (dp_var 12) (da_cons (dp_var 11) da_nil))) (dp_of (de_fn cd_len (by rfl) T.b_len (by decide +kernel) (da_cons (dp_var 11) da_nil))))) (dp_of de_int))) (nomark _)))))))))))))), fun ds z R RX h => ?_⟩
  · obtain ⟨p, c, l, al, lev, rfl, _⟩ := spRight14_un h
    rfl
  · obtain ⟨p, c, l, al, lev, rfl, rfl, hc, g, hl, k⟩ := spRight14_un h
    have hm := g.many
    have hz : (100000 : Nat) ≤ sizeLine := by decide
    obtain ⟨s1, s2⟩ := g.sub (ws := al.drop lev) (fun a q => List.mem_of_mem_drop q) (by rw [List.length_drop]; omega)
    obtain ⟨m1, m2, _⟩ := manyQ_pos g (m := 0) (lev := lev) (Nat.zero_le _) hl
    have hlog : ∀ i : Int, 1 ≤ i → i ≤ 7962624 → i.natAbs.log2 < 9000 := fun i h1 h2 => Nat.lt_of_lt_of_le (log_small (k := 100) (Nat.lt_of_le_of_lt (show i.natAbs ≤ 7962624 by omega) (by decide)) (by decide) (by decide)) (by decide)
    walk_at "d"
    refine use_lside 0 rfl g ?_
    walk_at "d"
    refine use_lside lev rfl g ?_
    walk_at "d"
    rw [if_pos (show 0 < prodL (al.drop lev) by omega), show prodL (al.drop 0) / prodL (al.drop lev) = manyQ al 0 lev from rfl]
    refine ⟨hlog _ s1 s2, ?_⟩
    refine spFig_of ⟨p, c, rfl, rfl, by omega, fun E hE => ?_⟩
    refine spFig_of ⟨p, c + 5, rfl, rfl, by omega, fun N hN => ?_⟩
    walk_at "d"
    have hcm : ∀ x : Int, x.natAbs < 10 ^ 9 → CMulW x (manyQ al 0 lev) := fun x hx => wide_mul (a := 140) (b := 100) (Nat.lt_trans hx (by decide)) (Nat.lt_of_le_of_lt (show (manyQ al 0 lev).natAbs ≤ 7962624 by omega) (by decide)) (by decide) (by decide) (by decide)
    refine ⟨hcm E hE, ?_⟩
    refine use_draw (by omega) (by omega) (Int.lt_of_le_of_lt m2 (by decide)) fun dx hx0 hx1 => ?_
    refine ⟨hcm N hN, ?_⟩
    refine use_draw (by omega) (by omega) (Int.lt_of_le_of_lt m2 (by decide)) fun dy hy0 hy1 => ?_
    walk_at "d"
    have ux := up_of (E := E) hx0 hx1
    have uy := up_of (E := N) hy0 hy1
    have bd : ∀ e d : Int, e.natAbs < 10 ^ 9 → 0 ≤ d → d < manyQ al 0 lev → (e * manyQ al 0 lev + d).natAbs < 2 ^ 60 := fun e d he h0 h1 => by
      have a1 : (e * manyQ al 0 lev).natAbs ≤ 10 ^ 9 * 7962624 := by
        rw [Int.natAbs_mul]
        exact Nat.mul_le_mul (Nat.le_of_lt he) (by omega)
      omega
    have bx := bd E dx hE hx0 hx1
    have by_ := bd N dy hN hy0 hy1
    generalize E * manyQ al 0 lev + dx = x at ux bx ⊢
    generalize N * manyQ al 0 lev + dy = y at uy by_ ⊢
    have hx2 : x.natAbs < 2 ^ 200 := Nat.lt_trans bx (by decide)
    have hy2 : y.natAbs < 2 ^ 200 := Nat.lt_trans by_ (by decide)
    have hsn := signs_len (al := al) (lev := lev) (x := x) (y := y)
    generalize hsg : signsQ al lev x y = sg at hsn
    have hstr := str_S g hl x y
    rw [ux, uy, hsg] at hstr
    obtain ⟨iE, _⟩ := int_len hE
    obtain ⟨iN, _⟩ := int_len hN
    have hrl : ∀ s : List Nat, s.length ≤ 10 → (refL E N s).length ≤ 40 := fun s hs => by
      unfold refL
      rw [List.length_append, List.length_cons, List.length_append]
      split
      · simp; omega
      · rw [List.length_cons]; omega
    have hsl : sg.length ≤ 10 := by omega
    have rd : ∀ (s : List Nat) (m : Nat), m ≤ lev → s.length = 2 * m → (∀ j < 2 * m, s[j]? = sg[j]?) → readQ al (refL E N s) = .inl (m, upQ al lev x m, upQ al lev y m) := fun s m h1 h2 h3 => by
      have := read_ref g hl x y s h1 h2 (by rw [hsg]; exact h3) (by rw [ux]; exact hE) (by rw [uy]; exact hN)
      rw [ux, uy] at this
      exact this
    have rd0 := rd sg lev (Nat.le_refl _) hsn fun _ _ => rfl
    rw [upQ_self g hl, upQ_self g hl] at rd0
    refine ⟨fun d ρ' z' => d = .str (S (refL E N sg)) ∧ ρ' = [.val (.adr p), .val (gridD CG l al), .val (.lst (strsD al)), .val (.int (lev : Nat)), .val (.int (manyQ al 0 lev)), .val (.int E), .val (.int N), .val (.int x), .val (.int y), .any, .any, .any, .any] ∧ z' = ⟨some p, c + 5 + 5 + 1 + 1⟩, ?_, ?_⟩
    · walk_at "d"
      have sh := sheet_S g hl x y
      rw [ux, uy] at sh
      refine iteD (fun h0 => ?_) (fun h0 => ?_)
      · refine spSigs_of ⟨l, al, lev, x, y, rfl, g, hl, hx2, hy2, ?_⟩
        rw [hsg, sh]
        refine ⟨[S (intL E ++ 47 :: intL N), S sg], rfl, ?_, ?_⟩
        · show (S (intL E ++ 47 :: intL N)).length + ((S sg).length + 0) + 2 * (Str.ofString " ").length ≤ 16777216
          rw [S_len, S_len, show (Str.ofString " ").length = 1 from by decide +kernel, List.length_append, List.length_cons]
          omega
        have ej : Txt.join (Str.ofString " ") [S (intL E ++ 47 :: intL N), S sg] = S (refL E N sg) := by
          rw [show Str.ofString " " = S [32] by decide +kernel]
          have := join_S [32] [intL E ++ 47 :: intL N, sg]
          rw [List.map_cons, List.map_cons, List.map_nil] at this
          rw [this]
          unfold refL
          have hne : sg ≠ [] := fun q => by rw [q] at hsn; simp at hsn; omega
          rw [if_neg hne]
          show S ((intL E ++ 47 :: intL N) ++ ([32] ++ sg)) = _
          simp
        first
          | exact ⟨by rw [ej], rfl, rfl⟩
          | exact ⟨by rw [ej], rfl⟩
          | (rw [ej])
      · refine spSigs_of ⟨l, al, lev, x, y, rfl, g, hl, hx2, hy2, ?_⟩
        walk_at "d"
        rw [sh]
        have h00 : lev = 0 := by omega
        have hse : sg = [] := List.length_eq_zero_iff.mp (by omega)
        have er : S (intL E ++ 47 :: intL N) = S (refL E N sg) := by
          unfold refL
          rw [if_pos hse, List.append_nil]
        rw [er]
    rintro d ρ' z' ⟨rfl, rfl, rfl⟩
    walk_at "d"
    have hr40 := hrl sg hsl
    refine spLRead_of ⟨p, _, l, al, refL E N sg, lev, x, y, rfl, rfl, by omega, g, by omega, rd0, ?_⟩
    walk_at "d"
    simp only [fld_level O, fld_east O, fld_north O, fld_grid O]
    walk_at "d"
    have lgs : ∀ v ∈ [(lev : Int), x, y], v.natAbs.log2 < 1920 := List.forall_mem_cons.mpr ⟨log_small (k := 10) (Nat.lt_of_le_of_lt (show ((lev : Nat) : Int).natAbs ≤ 5 by omega) (by decide)) (by decide) (by decide), List.forall_mem_cons.mpr ⟨log_small bx (by decide) (by decide), List.forall_mem_cons.mpr ⟨log_small by_ (by decide) (by decide), fun _ m => nomatch m⟩⟩⟩
    refine use_reprT (ns := [(lev : Int), x, y]) lgs (by simp) ?_
    refine use_reprT (ns := [(lev : Int), x, y]) lgs (by simp) ?_
    walk_at "d"
    refine ⟨gridD_ins _ _ _, ⟨.ref CG, ⟨rfl, O_Grid.oty⟩, notFirst_self⟩, use_GEq g.len ?_⟩
    rw [decide_eq_true rfl]
    walk_at "d"
    refine ⟨sqD_ins _ _ _ _ _ _ _, spSqStr_of ⟨l, al, lev, x, y, rfl, by omega, hx2, hy2, ?_⟩⟩
    rw [hstr]
    walk_at "d"
    refine ⟨fun ρ' z' => ρ' = [.val (.adr p), .val (gridD CG l al), .val (.lst (strsD al)), .val (.int (lev : Nat)), .val (.int (manyQ al 0 lev)), .val (.int E), .val (.int N), .val (.int x), .val (.int y), .val (.str (S (refL E N sg))), .val (sqD CS CG l al lev x y), .any, .any] ∧ z' = ⟨some p, c + 5 + 5 + 1 + 1 + 1⟩, ?_, ?_⟩
    · walk_at "d"
      refine iteD (fun h1 => ?_) (fun _ => trivial)
      have hlt : (refL E N sg).length ≤ 40 := hr40
      refine ⟨by rw [S_len]; omega, ?_⟩
      have hsd : (refL E N sg).take ((refL E N sg).length - 2) = refL E N (sg.take (2 * (lev - 1))) := by
        have hne : sg ≠ [] := fun q => by rw [q] at hsn; simp at hsn; omega
        have hne2 : sg.take (2 * (lev - 1)) ≠ [] := fun q => by
          have h0 : (sg.take (2 * (lev - 1))).length = 0 := by rw [q]; rfl
          rw [List.length_take] at h0
          omega
        unfold refL
        rw [if_neg hne, if_neg hne2]
        rw [List.length_append, List.length_cons, List.length_append, List.length_cons]
        rw [List.take_append, List.take_of_length_le (by omega)]
        congr 1
        rw [show (intL E).length + ((intL N).length + (sg.length + 1) + 1) - 2 - (intL E).length = (intL N).length + (2 * (lev - 1) + 1) + 1 by omega, List.take_succ_cons]
        congr 1
        rw [List.take_append, List.take_of_length_le (by omega)]
        congr 1
        rw [show (intL N).length + (2 * (lev - 1) + 1) - (intL N).length = 2 * (lev - 1) + 1 by omega, List.take_succ_cons]
      have hcut : cutS (S (refL E N sg)) none (some (-2)) = S (refL E N (sg.take (2 * (lev - 1)))) := by
        rw [← hsd]
        have h2 : 2 ≤ (refL E N sg).length := by
          unfold refL
          rw [List.length_append, List.length_cons, List.length_append]
          have := TL.numL_ne N.natAbs
          have h3 : 0 < (intL N).length := by
            unfold intL
            split
            · simp
            · exact List.length_pos_iff.mpr this
          omega
        generalize refL E N sg = t at h2 ⊢
        unfold cutS
        rw [HT.sIx_none, S_len]
        have e2 : HT.sIx t.length t.length (some (-2)) = t.length - 2 := by
          unfold HT.sIx
          simp
          omega
        rw [e2]
        rfl
      rw [hcut]
      have hm1 : lev - 1 ≤ lev := by omega
      have r1 := rd (sg.take (2 * (lev - 1))) (lev - 1) hm1 (by rw [List.length_take]; omega) fun j hj => by rw [List.getElem?_take, if_pos hj]
      refine use_read g (Nat.le_trans (hrl _ (by rw [List.length_take]; omega)) (by decide)) r1 ?_
      walk_at "d"
      refine ⟨meth_Q (by decide), spWider_of ⟨l, al, lev, x, y, _, rfl, g, hl, hx2, hy2, .inl ⟨lev - 1, by rw [show (lev : Int) - 1 = ((lev - 1 : Nat) : Int) by omega], hm1, ?_⟩⟩⟩
      refine ⟨sqD_ins _ _ _ _ _ _ _, ⟨.ref CS, ⟨rfl, O.oty⟩, notFirst_self⟩, use_sqEq g.len ?_⟩
      rw [decide_eq_true (show l = l ∧ lev - 1 = lev - 1 ∧ upQ al lev x (lev - 1) = x / manyQ al (lev - 1) lev ∧ upQ al lev y (lev - 1) = y / manyQ al (lev - 1) lev from ⟨rfl, rfl, rfl, rfl⟩)]
      walk_at "d"
    rintro ρ' z' ⟨rfl, rfl⟩
    walk_at "d"
    have elen1 : (Str.ofString "-").length = 1 := by decide +kernel
    refine use_draw (by omega) (by decide) (by decide) fun u hu0 hu1 => ?_
    obtain ⟨sgn, hsg2⟩ : ∃ sgn : Bool, Txt.mul (Str.ofString "-") u = S (if sgn then [45] else []) := by
      rcases (show u = 0 ∨ u = 1 by omega) with rfl | rfl
      · exact ⟨false, by decide +kernel⟩
      · exact ⟨true, by decide +kernel⟩
    walk_at "d"
    refine ⟨mulok_small (by omega) (by omega) (by decide +kernel), ⟨by decide, by decide, by decide⟩, ?_⟩
    rw [hsg2]
    generalize hn : 10 ^ 9 + E.natAbs = n
    have hn1 : 10 ^ 9 ≤ n := by omega
    have hn2 : n < 10 ^ 10 := by omega
    have env : ((10 : Int) ^ Int.toNat 9 + if E < 0 then -E else E) = (n : Int) := by
      rw [show (10 : Int) ^ Int.toNat 9 = 1000000000 from by decide]
      split <;> omega
    rw [env, SX.num_S]
    have gl := great_len (sgn := sgn) hn1 hn2
    have n10 := num_len10 hn1 hn2
    have ssl : (S (if sgn then [45] else [])).length ≤ 1 := by rw [S_len]; cases sgn <;> decide
    refine ⟨log_small (k := 60) (Nat.lt_trans (show ((n : Nat) : Int).natAbs < 10 ^ 10 by omega) (by decide)) (by decide) (by decide), by rw [S_len] at ssl ⊢; rw [S_len, n10]; omega, ?_⟩
    have eg : S (if sgn then [45] else []) ++ S (TL.numL n) = S (greatL sgn n) := S_cat _ _
    rw [eg, show Str.ofString "/" = S [47] by decide +kernel]
    have er : refL E N sg = intL E ++ 47 :: (intL N ++ if sg = [] then [] else 32 :: sg) := rfl
    rw [er]
    rw [er] at hr40
    generalize (intL N ++ if sg = [] then [] else 32 :: sg) = rest at hr40 ⊢
    obtain ⟨r1, o1⟩ := slash_first E rest
    have c1 : cutS (S (intL E ++ 47 :: rest)) (some ((intL E).length : Int)) none = S (47 :: rest) := by
      rw [cutS_from, List.drop_left' rfl]
    have c2 : cutS (S (intL E ++ 47 :: rest)) none (some (((intL E).length : Int) + 1)) = S (intL E ++ [47]) := by
      unfold cutS
      rw [show ((intL E).length : Int) + 1 = (((intL E).length + 1 : Nat) : Int) by omega, HT.sIx_nat, HT.sIx_none, S_len]
      show S (((intL E ++ 47 :: rest).drop 0).take (min ((intL E).length + 1) (intL E ++ 47 :: rest).length - 0)) = _
      rw [List.drop_zero, Nat.sub_zero, Nat.min_eq_left (by rw [List.length_append, List.length_cons]; omega), List.take_append, List.take_of_length_le (by omega), Nat.add_sub_cancel_left]
      rfl
    have hgl : (greatL sgn n).length ≤ 11 := by rw [gl]; cases sgn <;> decide
    have hle : (47 :: rest).length ≤ 40 := by rw [List.length_append] at hr40; omega
    have hl1 : (intL E ++ [47]).length ≤ 11 := by rw [List.length_append]; show _ + 1 ≤ 11; omega
    refine ⟨_, r1, o1, by rw [S_len]; omega, ?_⟩
    rw [c1]
    walk_at "d"
    rw [S_cat]
    refine ⟨by rw [S_len, S_len]; omega, _, r1, o1, by rw [S_len]; omega, ?_⟩
    rw [c2]
    walk_at "d"
    rw [S_cat]
    refine ⟨by rw [S_len, S_len]; omega, ?_⟩
    refine use_draw (by omega) (by decide) (by decide) fun v hv0 hv1 => ?_
    have two : ∀ d ∈ ([.str (S (greatL sgn n ++ 47 :: rest)), .str (S ((intL E ++ [47]) ++ greatL sgn n))] : List D), ∃ (t : List Nat) (i j : Nat) (r : List Nat), d = .str (S t) ∧ t.length ≤ 100 ∧ readQ al t = .inr i ∧ Builtin.Str.occurrences (S t) (S (greatL sgn n)) 0 (S t).length 1 = j :: r ∧ i + 1 = j + (greatL sgn n).length := by
      refine List.forall_mem_cons.mpr ⟨?_, List.forall_mem_cons.mpr ⟨?_, nofun⟩⟩
      · obtain ⟨r, o⟩ := great_first1 (sgn := sgn) (rest := 47 :: rest) hn1 hn2
        exact ⟨_, _, 0, r, rfl, by rw [List.length_append]; omega, read_great1 hn1 hn2, o, by rw [gl]; omega⟩
      · obtain ⟨r, o⟩ := great_first2 (sgn := sgn) (E := E) hE hn1 hn2
        exact ⟨_, _, _, r, rfl, by rw [List.length_append]; omega, read_great2 hE hn1 hn2, o, by rw [gl]; omega⟩
    refine pickG hv0 (show v < ((2 : Nat) : Int) from hv1) two ?_
    rintro d ⟨t, i, j, r, rfl, ht, hr, ho, hij⟩
    refine spLAt_of ⟨l, al, t, i, rfl, g, by omega, hr, ?_⟩
    refine ⟨_, rfl, ?_⟩
    walk_at "d"
    refine ⟨_, _, ho, ?_⟩
    walk_at "d"
    rw [S_len]
    refine ⟨by omega, ?_⟩
    rw [decide_eq_true (show (i : Int) = (j : Int) + ((greatL sgn n).length : Int) - 1 by omega)]
    exact k _ (by omega)
end

end K14

set_option Elab.async false
set_option linter.all false
set_option maxRecDepth 100000
set_option maxHeartbeats 2000000
namespace K14
open PySem L2 Lay RZ SkE SX
/-! ### reading steps over trees -/
local macro_rules | `(tactic| walk_at "d") => `(tactic| try simp -implicitDefEqProofs only [cxK, noxK, wishK, startD, startI, List.map_cons, List.map_nil, List.length_cons, List.length_nil, List.length_singleton, Nat.zero_add, Nat.reduceAdd, Nat.reduceSub, Nat.add_one_sub_one, List.replicate_succ, List.replicate_zero, List.cons_append, List.nil_append, List.append_nil,
  ap_dVar, ap_dPeek, ap_dC, ap_dOp, ap_dTest, ap_dChain, ap_dTru, ap_dAndB, ap_dOrB, ap_dNotB, ap_dAnd, ap_dOr, ap_dNot, ap_dNil, ap_dCons, ap_dTup, ap_dLst, ap_dLet, ap_dSized, ap_dUn, ap_dNoPart, ap_dPart, ap_dSl, ap_dFn, ap_dMt, ap_dMt0, ap_dFs, ap_dFmt, ap_dJoin, ap_dNext, ap_dSeq, ap_dDrop, ap_dRet, ap_dIf, ap_dAsg, ap_dSet, ap_dOwn, ap_dAppend, ap_dAug, ap_dFldS, ap_dPar, ap_dPar3, ap_dIt, ap_dItA, ap_dFor, ap_dLc, ap_dYes, ap_dCall, ap_dCall0, ap_dCallKw, ap_dCallKw0, ap_dMeth, ap_dMeth0, ap_dMethKw, ap_dOne, ap_dFmtO, ap_dEqO, ap_dReqO, ap_dMake, ap_dMake0, ap_dMakeKw, ap_dMakeKw0, ap_dRaise, ap_dPair, ap_dCat, ex_obj1, ex_obj2, ex_ins1, ex_ins2, ex_str, ex_own, ex_val, ap_ix0, ap_ix1, ap_ix2, e_lenOk, e_isStr, le_sz0, le_sz1, le_sz2, le_sz3, le_sz4, le_sz5, le_sz6, le_sz7, le_sz8, ap_dIfE, ap_isD, ap_in1, ap_in2, ap_in3, ap_isi, ap_sum, ap_any, ap_dJs0, ap_dJs1, ap_dgName, ap_dgTup, ap_dgCons, ap_dgNil, ap_dTry, ap_dXf, e_tru1, e_tru2, e_tru3, e_tru4, e_tru5, e_tru6, e_tru7, e_fmtD1, e_fmtD2, e_iterD1, e_iterD2, e_iterD3, e_iterD4, e_addD1, e_addD2, e_addD3, e_addD4, e_subD1, e_mulD1, e_mulD2, e_mulD3, e_fdivD1, e_modD1, e_powD1, e_cmpD1, e_cmpD2, e_eqD1, e_eqD2, e_eqD3, e_eqD4, e_eqD5, e_eqD6, e_eqD7, e_eqD8, e_eqD9, e_eqD10, e_eqD11, e_eqD12, e_eqD13, e_eqD14, e_isNonD1, e_negD1, e_ixD1, e_ixD2, e_ixD3, e_ixD4, e_slD1, e_slD2, e_slD3, e_slD4, e_lenD1, e_lenD2, e_lenD3, e_lenD4, e_absD1, e_mmD1, e_intD1, e_intD2, e_intD3, e_strD1, e_strD2, e_tupleD1, e_tupleD2, e_tupleD3, e_listD1, e_listD2, e_listD3, e_splitD1, e_joinD1, e_joinD2, e_str1D1, e_iaddD1, e_iaddD2, e_imulD1, e_ifdivD1, e_enumD1, e_enumD2, e_zipF1, e_zipF2, e_rng11, e_rng21, e_rng31, e_fldD1, e_dixD1, e_dixD2, e_revSD1, e_catD1, ap_dTryK, ap_dSetX, kx_any, kx_val, kx_own, kx_exc, e_xfD, e_nonX, e_rngW, ap_dExtend, e_extD, ap_best, ap_dItR, e_revF1, e_revF2, e_revF3, ap_dTryN, ap_dRaiseU, ap_dSplitN, e_splitN, ap_dSetIx, e_setD, e_zipG, ap_dTupO, e_caseD, e_rngS, e_enumG, ap_dInO, ap_dPopSet, e_popD, ap_dAppPop, ap_dPairON, ap_dListN, e_listN1, e_listN2, e_listN3, e_listN4, e_isB, ap_dIsX, ap_dgLst, ap_dReprT, ap_dBoolO, ap_dEqG, e_shlD1, e_eqE, ap_dPar3O, ap_bestT, ap_dPar3E, e_kin, e_kix, e_index, ltD, leD, gtD, geD, minD, maxD, wipeD,
  List.set_cons_zero, List.set_cons_succ, List.getElem?_cons_zero, List.getElem?_cons_succ, List.length_set, if_true, if_false, Bool.false_eq_true, reduceIte, id, Bool.not_true, Bool.not_false, true_and, and_true, List.zip_cons_cons, List.zip_nil_right, List.zip_nil_left, reduceCtorEq, Option.some.injEq,
  Nat.reduceLT, Nat.reduceLeDiff, Nat.reduceEqDiff, and_self, ite_self, decide_true, decide_false, eq_self])
local macro_rules | `(tactic| walk_at "ds") => `(tactic| first | rfl | decide | assumption | omega | exact Nat.le_of_ble_eq_true rfl)

section
variable {P : Program} {w : World} {K : PySem.W.Frag} {mg : Str → Option Value} {base : Heap} {f : Addr} {fd : FuncData} {CG CB CE CS CQ CU CM CD CC CA CR CN CF : Addr}
@[irreducible] def spLaw : PSp := fun ds z R _ => ∃ ns : List Int, ds = [.rol (ns.map .int)] ∧ ns.length ≤ 63 ∧ ∀ z, R (.bl true) z
theorem spLaw_of  {ds : List D} {z : Z} {R : D → Z → Prop} {E : PX} (h_ : ∃ ns : List Int, ds = [.rol (ns.map .int)] ∧ ns.length ≤ 63 ∧ ∀ z, R (.bl true) z) : spLaw ds z R E := by unfold spLaw; exact h_
theorem spLaw_un  {ds : List D} {z : Z} {R : D → Z → Prop} {E : PX} (h_ : spLaw ds z R E) : ∃ ns : List Int, ds = [.rol (ns.map .int)] ∧ ns.length ≤ 63 ∧ ∀ z, R (.bl true) z := by unfold spLaw at h_; exact h_
abbrev s_law : Stmt := (top 31)
abbrev law.N : List Str := ["_law_script", "_law_k", "_law_pot", "_law_tour", "_law_written", "_law_signs_here"]
abbrev law.ps : List Str := ["_law_script"]
theorem sc_law : FnScope law.N law.ps (defScope s_law) := ⟨rfl, rfl, rfl, by decide +kernel, rfl, by decide +kernel, by decide +kernel⟩
theorem ok_law (F : Fun K "law" "law" s_law f fd) (T : T14 mg) (GF : GridFn P w K mg base CG CB) (C_draw : Callee P w K mg base CX0 1 "_law_draw" s_draw draw.ps (lift K spDraw)) (C_begin : Callee P w K mg base CX0 1 "_law_begin" s_begin begin.ps (lift K spBegin))
    (C_grid : Callee P w K mg base CX0 2 "_law_grid" s_grid grid.ps (lift K spLGrid)) (C_right : Callee P w K mg base CX0 9 "_law_right" s_right right.ps (lift K (spRight14 CG))) :
    FnG P w K mg base CX0 10 f fd ["_law_script"] (lift K spLaw) := by
  obtain ⟨O_Grid, G_Grid, N_Grid, R_Grid, W_Grid, I_Grid, C_Grid, C_Grid_eq, C_Grid_len, C_Grid_str, C_Grid_repr, C_Grid_alphabet, C_Grid_cut, C_Grid_side⟩ := GF
  refine dbody F sc_law (fun ds z R RX h => ?_) fun cdv A outer s H E hr hg => ⟨_, (dss_cons (ds_for PassesOwn.never rfl (di_range1 rfl T.b_range (da_cons (dp_of (de_op od_add (dp_of de_int) (dp_of (de_fn cd_len (by rfl) T.b_len (by decide +kernel) (da_cons (dp_of (de_slice sd_sl (dp_var 0) do_none (do_some de_int))) da_nil))))) da_nil)) (dg_name (i := 1) sc_law.nd rfl (Or.inl rfl)) (dss_cons (ds_set (i := 2) sc_law.nd rfl (Or.inl rfl) (C_begin.d0 rfl hr hg (atAll pass0) (das_cons (de_var 0) (das_cons (de_var 1) das_nil))))
      (dss_one (ds_for PassesOwn.never rfl (di_range1 rfl T.b_range (da_cons (dp_of de_int) da_nil)) (dg_name (i := 3) sc_law.nd rfl (Or.inl rfl)) (dss_cons (ds_asg (C_grid.d0 rfl hr hg (atAll pass0) (das_cons (de_var 2) (das_cons de_int (das_cons de_int das_nil)))) (dg_tup (n := 2) rfl (dgs_cons (dg_name (i := 4) sc_law.nd rfl (Or.inl rfl)) (dgs_cons (dg_name (i := 5) sc_law.nd rfl (Or.inl rfl)) dgs_nil))))
      (dss_one (ds_if (dt_not (dt_truth (dp_of (C_right.d0 rfl hr hg (atAll pass0) (das_cons (de_var 2) (das_cons (C_Grid.d0 rfl hr hg (atAll passL) (das_cons (de_var 4) das_nil)) (das_cons (de_var 5) (das_cons (C_draw.d0 rfl hr hg (atAll pass0) (das_cons (de_var 2) (das_cons (de_op od_add (dp_of (de_fn cd_len (by rfl) T.b_len (by decide +kernel) (da_cons (dp_var 5) da_nil))) (dp_of de_int)) das_nil))) das_nil)))))))) (dss_one (ds_ret de_bl)) dss_nil)))))))
      (dss_one (ds_ret de_bl))), fun ds z R RX h => ?_⟩
  · obtain ⟨ns, rfl, _⟩ := spLaw_un h
    rfl
  · obtain ⟨ns, rfl, hns, k⟩ := spLaw_un h
    walk_at "d"
    have h6 : (cutL (ns.map D.int) none (some 6)).length ≤ 6 := by
      rw [show (6 : Int) = ((6 : Nat) : Int) from rfl, cutL_take, List.length_take]
      omega
    refine ⟨by omega, by omega, ?_⟩
    refine forD_inv (fun i ρ z' => ∃ a1 a2 a3 a4 a5, ρ = [.val (.rol (ns.map .int)), a1, a2, a3, a4, a5]) ⟨_, _, _, _, _, rfl⟩ ?_ ?_
    · rintro i d ρ z' hdi ⟨a1, a2, a3, a4, a5, rfl⟩
      obtain ⟨hi, rfl⟩ := rngD_get hdi
      walk_at "d"
      refine use_begin i (by omega) (by omega) fun p => ?_
      walk_at "d"
      refine ⟨by decide, by decide, ?_⟩
      refine forD_inv (fun j ρ z' => ∃ a3 a4 a5 c, ρ = [.val (.rol (ns.map .int)), .val (.int (0 + (i : Int))), .val (.adr p), a3, a4, a5] ∧ z' = ⟨some p, c⟩ ∧ c ≤ 200 * j) ⟨_, _, _, _, rfl, rfl, by omega⟩ ?_ ?_
      · rintro j dj ρ z' hdj ⟨a3, a4, a5, c, rfl, rfl, hc⟩
        obtain ⟨hj, rfl⟩ := rngD_get hdj
        have hj4 : j < 4 := hj
        walk_at "d"
        refine use_grid (by omega) (by decide) (by decide) (by decide) fun ws c' hw hwm hwd hc' => ?_
        have g := hw.grid
        have hsl := signsAll_len ws
        have hm := g.many
        walk_at "d"
        refine use_Grid g ?_
        rw [strsD_len]
        refine use_draw (by omega) (by omega) (Int.lt_of_le_of_lt (show ((signsAll ws).length : Int) + 1 ≤ 6 by omega) (by decide)) fun lv hl0 hl1 => ?_
        obtain ⟨lv, rfl⟩ : ∃ m : Nat, lv = (m : Int) := ⟨lv.toNat, (Int.toNat_of_nonneg hl0).symm⟩
        refine spRight14_of ⟨p, _, textOf ws, signsAll ws, lv, rfl, rfl, by omega, g, by omega, fun c3 hc3 => ?_⟩
        walk_at "d"
        exact ⟨_, _, _, _, rfl, rfl, by omega⟩
      · rintro ρ z' ⟨a3, a4, a5, c, rfl, rfl, hc⟩
        walk_at "d"
        exact ⟨_, _, _, _, _, rfl⟩
    · rintro ρ z' ⟨a1, a2, a3, a4, a5, rfl⟩
      walk_at "d"
      exact k _
end

end K14

set_option Elab.async false
set_option linter.all false
set_option maxRecDepth 100000
set_option maxHeartbeats 2000000
namespace K14
open PySem L2 Lay RZ SkE SX
theorem law_asks {K : PySem.W.Frag} {H : Hp} {a : Addr} {ns : List Int} (hl : ns.length ≤ 63) (hS : SqL K H a (ns.map V.int)) : lift K spLaw [.ref a] H (fun v _ => v = .bl true) fun _ _ _ => False :=
  law_d hS (by unfold spLaw; exact ⟨ns, rfl, hl, fun z => rfl⟩)

theorem bd_BadGrid_init {K : PySem.W.Frag} {f : Addr} {fd : FuncData} (F : Fun K "__init__" "BadGrid.__init__" s_BadGrid_init f fd) : Binds K fd BadGrid_init.ps [] :=
  F.binds fun _ _ _ _ _ _ us hl => match us, hl with | [_, _], _ => rfl
theorem bd_BadSquare_init {K : PySem.W.Frag} {f : Addr} {fd : FuncData} (F : Fun K "__init__" "BadSquare.__init__" s_BadSquare_init f fd) : Binds K fd BadSquare_init.ps [] :=
  F.binds fun _ _ _ _ _ _ us hl => match us, hl with | [_, _], _ => rfl
theorem bd_signs_by {K : PySem.W.Frag} {f : Addr} {fd : FuncData} (F : Fun K "signs_by" "signs_by" s_signs_by f fd) : Binds K fd signs_by.ps [] :=
  F.binds fun _ _ _ _ _ _ us hl => match us, hl with | [_], _ => rfl
theorem bd_Grid_init {K : PySem.W.Frag} {f : Addr} {fd : FuncData} (F : Fun K "__init__" "Grid.__init__" s_Grid_init f fd) : Binds K fd Grid_init.ps [] :=
  F.binds fun _ _ _ _ _ _ us hl => match us, hl with | [_, _], _ => rfl
theorem bd_Grid_eq {K : PySem.W.Frag} {f : Addr} {fd : FuncData} (F : Fun K "__eq__" "Grid.__eq__" s_Grid_eq f fd) : Binds K fd Grid_eq.ps [] :=
  F.binds fun _ _ _ _ _ _ us hl => match us, hl with | [_, _], _ => rfl
theorem bd_Grid_len {K : PySem.W.Frag} {f : Addr} {fd : FuncData} (F : Fun K "__len__" "Grid.__len__" s_Grid_len f fd) : Binds K fd Grid_len.ps [] :=
  F.binds fun _ _ _ _ _ _ us hl => match us, hl with | [_], _ => rfl
theorem bd_Grid_str {K : PySem.W.Frag} {f : Addr} {fd : FuncData} (F : Fun K "__str__" "Grid.__str__" s_Grid_str f fd) : Binds K fd Grid_str.ps [] :=
  F.binds fun _ _ _ _ _ _ us hl => match us, hl with | [_], _ => rfl
theorem bd_Grid_repr {K : PySem.W.Frag} {f : Addr} {fd : FuncData} (F : Fun K "__repr__" "Grid.__repr__" s_Grid_repr f fd) : Binds K fd Grid_repr.ps [] :=
  F.binds fun _ _ _ _ _ _ us hl => match us, hl with | [_], _ => rfl
theorem bd_Grid_alphabet {K : PySem.W.Frag} {f : Addr} {fd : FuncData} (F : Fun K "alphabet" "Grid.alphabet" s_Grid_alphabet f fd) : Binds K fd Grid_alphabet.ps [] :=
  F.binds fun _ _ _ _ _ _ us hl => match us, hl with | [_, _], _ => rfl
theorem bd_Grid_cut {K : PySem.W.Frag} {f : Addr} {fd : FuncData} (F : Fun K "cut" "Grid.cut" s_Grid_cut f fd) : Binds K fd Grid_cut.ps [] :=
  F.binds fun _ _ _ _ _ _ us hl => match us, hl with | [_, _], _ => rfl
theorem bd_Grid_side {K : PySem.W.Frag} {f : Addr} {fd : FuncData} (F : Fun K "side" "Grid.side" s_Grid_side f fd) : Binds K fd Grid_side.ps [] :=
  F.binds fun _ _ _ _ _ _ us hl => match us, hl with | [_, _], _ => rfl
theorem bd_hold_level {K : PySem.W.Frag} {f : Addr} {fd : FuncData} (F : Fun K "hold_level" "hold_level" s_hold_level f fd) : Binds K fd hold_level.ps [] :=
  F.binds fun _ _ _ _ _ _ us hl => match us, hl with | [_, _], _ => rfl
theorem bd_Square_init {K : PySem.W.Frag} {f : Addr} {fd : FuncData} (F : Fun K "__init__" "Square.__init__" s_Square_init f fd) : Binds K fd Square_init.ps [] :=
  F.binds fun _ _ _ _ _ _ us hl => match us, hl with | [_, _, _, _, _], _ => rfl
theorem bd_Square_eq {K : PySem.W.Frag} {f : Addr} {fd : FuncData} (F : Fun K "__eq__" "Square.__eq__" s_Square_eq f fd) : Binds K fd Square_eq.ps [] :=
  F.binds fun _ _ _ _ _ _ us hl => match us, hl with | [_, _], _ => rfl
theorem bd_Square_len {K : PySem.W.Frag} {f : Addr} {fd : FuncData} (F : Fun K "__len__" "Square.__len__" s_Square_len f fd) : Binds K fd Square_len.ps [] :=
  F.binds fun _ _ _ _ _ _ us hl => match us, hl with | [_], _ => rfl
theorem bd_Square_str {K : PySem.W.Frag} {f : Addr} {fd : FuncData} (F : Fun K "__str__" "Square.__str__" s_Square_str f fd) : Binds K fd Square_str.ps [] :=
  F.binds fun _ _ _ _ _ _ us hl => match us, hl with | [_], _ => rfl
theorem bd_Square_repr {K : PySem.W.Frag} {f : Addr} {fd : FuncData} (F : Fun K "__repr__" "Square.__repr__" s_Square_repr f fd) : Binds K fd Square_repr.ps [] :=
  F.binds fun _ _ _ _ _ _ us hl => match us, hl with | [_], _ => rfl
theorem bd_Square_wider {K : PySem.W.Frag} {f : Addr} {fd : FuncData} (F : Fun K "wider" "Square.wider" s_Square_wider f fd) : Binds K fd Square_wider.ps [] :=
  F.binds fun _ _ _ _ _ _ us hl => match us, hl with | [_, _], _ => rfl
theorem bd_NoReference_init {K : PySem.W.Frag} {f : Addr} {fd : FuncData} (F : Fun K "__init__" "NoReference.__init__" s_NoReference_init f fd) : Binds K fd NoReference_init.ps [] :=
  F.binds fun _ _ _ _ _ _ us hl => match us, hl with | [_, _, _], _ => rfl
theorem bd_number_begun {K : PySem.W.Frag} {f : Addr} {fd : FuncData} (F : Fun K "number_begun" "number_begun" s_number_begun f fd) : Binds K fd number_begun.ps [] :=
  F.binds fun _ _ _ _ _ _ us hl => match us, hl with | [_, _], _ => rfl
theorem bd_signs_begun {K : PySem.W.Frag} {f : Addr} {fd : FuncData} (F : Fun K "signs_begun" "signs_begun" s_signs_begun f fd) : Binds K fd signs_begun.ps [] :=
  F.binds fun _ _ _ _ _ _ us hl => match us, hl with | [_, _], _ => rfl
theorem bd_square_by {K : PySem.W.Frag} {f : Addr} {fd : FuncData} (F : Fun K "square_by" "square_by" s_square_by f fd) : Binds K fd square_by.ps [] :=
  F.binds fun _ _ _ _ _ _ us hl => match us, hl with | [_, _, _, _], _ => rfl
theorem bd_read_square {K : PySem.W.Frag} {f : Addr} {fd : FuncData} (F : Fun K "read_square" "read_square" s_read_square f fd) : Binds K fd read_square.ps [] :=
  F.binds fun _ _ _ _ _ _ us hl => match us, hl with | [_, _], _ => rfl
theorem bd_draw {K : PySem.W.Frag} {f : Addr} {fd : FuncData} (F : Fun K "_law_draw" "_law_draw" s_draw f fd) : Binds K fd draw.ps [] :=
  F.binds fun _ _ _ _ _ _ us hl => match us, hl with | [_, _], _ => rfl
theorem bd_begin {K : PySem.W.Frag} {f : Addr} {fd : FuncData} (F : Fun K "_law_begin" "_law_begin" s_begin f fd) : Binds K fd begin.ps [] :=
  F.binds fun _ _ _ _ _ _ us hl => match us, hl with | [_, _], _ => rfl
theorem bd_grid {K : PySem.W.Frag} {f : Addr} {fd : FuncData} (F : Fun K "_law_grid" "_law_grid" s_grid f fd) : Binds K fd grid.ps [] :=
  F.binds fun _ _ _ _ _ _ us hl => match us, hl with | [_, _, _], _ => rfl
theorem bd_side {K : PySem.W.Frag} {f : Addr} {fd : FuncData} (F : Fun K "_law_side" "_law_side" s_side f fd) : Binds K fd side.ps [] :=
  F.binds fun _ _ _ _ _ _ us hl => match us, hl with | [_, _], _ => rfl
theorem bd_signs {K : PySem.W.Frag} {f : Addr} {fd : FuncData} (F : Fun K "_law_signs" "_law_signs" s_signs f fd) : Binds K fd signs.ps [] :=
  F.binds fun _ _ _ _ _ _ us hl => match us, hl with | [_, _, _, _], _ => rfl
theorem bd_figures {K : PySem.W.Frag} {f : Addr} {fd : FuncData} (F : Fun K "_law_figures" "_law_figures" s_figures f fd) : Binds K fd figures.ps [] :=
  F.binds fun _ _ _ _ _ _ us hl => match us, hl with | [_], _ => rfl
theorem bd_read {K : PySem.W.Frag} {f : Addr} {fd : FuncData} (F : Fun K "_law_read" "_law_read" s_read f fd) : Binds K fd read.ps [] :=
  F.binds fun _ _ _ _ _ _ us hl => match us, hl with | [_, _, _], _ => rfl
theorem bd_at {K : PySem.W.Frag} {f : Addr} {fd : FuncData} (F : Fun K "_law_at" "_law_at" s_at f fd) : Binds K fd at.ps [] :=
  F.binds fun _ _ _ _ _ _ us hl => match us, hl with | [_, _], _ => rfl
theorem bd_right {K : PySem.W.Frag} {f : Addr} {fd : FuncData} (F : Fun K "_law_right" "_law_right" s_right f fd) : Binds K fd right.ps [] :=
  F.binds fun _ _ _ _ _ _ us hl => match us, hl with | [_, _, _, _], _ => rfl
theorem all_mk {l : PySem.W.OpenLaw} {w : World} {K : PySem.W.Frag} {h : Heap} {mg : Str → Option Value} {fa : Addr} (X : K.In h) (G : h.Ns mainGlobals mg) (hfa : mg "law" = some (.ref fa))
    {CG CS CB CQ CE CF : Addr}
    {tg_LETTER_SIGNS : Tok}
    {tg_FIGURE_SIGNS : Tok}
    {tg_MOST_LEVELS : Tok}
    {nm_BadGrid q_BadGrid : Str} {N_BadGrid : Addr} {bs_BadGrid bm_BadGrid sub_BadGrid : List Value} {sn_BadGrid : List Str} {ab_BadGrid : Bool} {col_BadGrid : Option Bool} {dd_BadGrid : Option Addr} {m0_BadGrid m1_BadGrid m2_BadGrid m3_BadGrid m5_BadGrid : Option Value}
    {nm_BadSquare q_BadSquare : Str} {N_BadSquare : Addr} {bs_BadSquare bm_BadSquare sub_BadSquare : List Value} {sn_BadSquare : List Str} {ab_BadSquare : Bool} {col_BadSquare : Option Bool} {dd_BadSquare : Option Addr} {m0_BadSquare m1_BadSquare m2_BadSquare m3_BadSquare m5_BadSquare : Option Value}
    {f_BadGrid_init : Addr} {oc_BadGrid_init kV_BadGrid_init dc_BadGrid_init pm_BadGrid_init cd_BadGrid_init ct_BadGrid_init : Value} {od_BadGrid_init an_BadGrid_init : Option Addr} {sl_BadGrid_init : Array (Option Value)}
    {f_BadSquare_init : Addr} {oc_BadSquare_init kV_BadSquare_init dc_BadSquare_init pm_BadSquare_init cd_BadSquare_init ct_BadSquare_init : Value} {od_BadSquare_init an_BadSquare_init : Option Addr} {sl_BadSquare_init : Array (Option Value)}
    {f_signs_by : Addr} {oc_signs_by kV_signs_by dc_signs_by pm_signs_by cd_signs_by ct_signs_by : Value} {od_signs_by an_signs_by : Option Addr} {sl_signs_by : Array (Option Value)}
    {f_Grid_init : Addr} {oc_Grid_init kV_Grid_init dc_Grid_init pm_Grid_init cd_Grid_init ct_Grid_init : Value} {od_Grid_init an_Grid_init : Option Addr} {sl_Grid_init : Array (Option Value)}
    {f_Grid_eq : Addr} {oc_Grid_eq kV_Grid_eq dc_Grid_eq pm_Grid_eq cd_Grid_eq ct_Grid_eq : Value} {od_Grid_eq an_Grid_eq : Option Addr} {sl_Grid_eq : Array (Option Value)}
    {f_Grid_len : Addr} {oc_Grid_len kV_Grid_len dc_Grid_len pm_Grid_len cd_Grid_len ct_Grid_len : Value} {od_Grid_len an_Grid_len : Option Addr} {sl_Grid_len : Array (Option Value)}
    {f_Grid_str : Addr} {oc_Grid_str kV_Grid_str dc_Grid_str pm_Grid_str cd_Grid_str ct_Grid_str : Value} {od_Grid_str an_Grid_str : Option Addr} {sl_Grid_str : Array (Option Value)}
    {f_Grid_repr : Addr} {oc_Grid_repr kV_Grid_repr dc_Grid_repr pm_Grid_repr cd_Grid_repr ct_Grid_repr : Value} {od_Grid_repr an_Grid_repr : Option Addr} {sl_Grid_repr : Array (Option Value)}
    {f_Grid_alphabet : Addr} {oc_Grid_alphabet kV_Grid_alphabet dc_Grid_alphabet pm_Grid_alphabet cd_Grid_alphabet ct_Grid_alphabet : Value} {od_Grid_alphabet an_Grid_alphabet : Option Addr} {sl_Grid_alphabet : Array (Option Value)}
    {f_Grid_cut : Addr} {oc_Grid_cut kV_Grid_cut dc_Grid_cut pm_Grid_cut cd_Grid_cut ct_Grid_cut : Value} {od_Grid_cut an_Grid_cut : Option Addr} {sl_Grid_cut : Array (Option Value)}
    {f_Grid_side : Addr} {oc_Grid_side kV_Grid_side dc_Grid_side pm_Grid_side cd_Grid_side ct_Grid_side : Value} {od_Grid_side an_Grid_side : Option Addr} {sl_Grid_side : Array (Option Value)}
    {f_hold_level : Addr} {oc_hold_level kV_hold_level dc_hold_level pm_hold_level cd_hold_level ct_hold_level : Value} {od_hold_level an_hold_level : Option Addr} {sl_hold_level : Array (Option Value)}
    {f_Square_init : Addr} {oc_Square_init kV_Square_init dc_Square_init pm_Square_init cd_Square_init ct_Square_init : Value} {od_Square_init an_Square_init : Option Addr} {sl_Square_init : Array (Option Value)}
    {f_Square_eq : Addr} {oc_Square_eq kV_Square_eq dc_Square_eq pm_Square_eq cd_Square_eq ct_Square_eq : Value} {od_Square_eq an_Square_eq : Option Addr} {sl_Square_eq : Array (Option Value)}
    {f_Square_len : Addr} {oc_Square_len kV_Square_len dc_Square_len pm_Square_len cd_Square_len ct_Square_len : Value} {od_Square_len an_Square_len : Option Addr} {sl_Square_len : Array (Option Value)}
    {f_Square_str : Addr} {oc_Square_str kV_Square_str dc_Square_str pm_Square_str cd_Square_str ct_Square_str : Value} {od_Square_str an_Square_str : Option Addr} {sl_Square_str : Array (Option Value)}
    {f_Square_repr : Addr} {oc_Square_repr kV_Square_repr dc_Square_repr pm_Square_repr cd_Square_repr ct_Square_repr : Value} {od_Square_repr an_Square_repr : Option Addr} {sl_Square_repr : Array (Option Value)}
    {f_Square_wider : Addr} {oc_Square_wider kV_Square_wider dc_Square_wider pm_Square_wider cd_Square_wider ct_Square_wider : Value} {od_Square_wider an_Square_wider : Option Addr} {sl_Square_wider : Array (Option Value)}
    {nm_NoReference q_NoReference : Str} {N_NoReference : Addr} {bs_NoReference bm_NoReference sub_NoReference : List Value} {sn_NoReference : List Str} {ab_NoReference : Bool} {col_NoReference : Option Bool} {dd_NoReference : Option Addr} {m0_NoReference m1_NoReference m2_NoReference m3_NoReference m5_NoReference : Option Value}
    {f_NoReference_init : Addr} {oc_NoReference_init kV_NoReference_init dc_NoReference_init pm_NoReference_init cd_NoReference_init ct_NoReference_init : Value} {od_NoReference_init an_NoReference_init : Option Addr} {sl_NoReference_init : Array (Option Value)}
    {f_number_begun : Addr} {oc_number_begun kV_number_begun dc_number_begun pm_number_begun cd_number_begun ct_number_begun : Value} {od_number_begun an_number_begun : Option Addr} {sl_number_begun : Array (Option Value)}
    {f_signs_begun : Addr} {oc_signs_begun kV_signs_begun dc_signs_begun pm_signs_begun cd_signs_begun ct_signs_begun : Value} {od_signs_begun an_signs_begun : Option Addr} {sl_signs_begun : Array (Option Value)}
    {f_square_by : Addr} {oc_square_by kV_square_by dc_square_by pm_square_by cd_square_by ct_square_by : Value} {od_square_by an_square_by : Option Addr} {sl_square_by : Array (Option Value)}
    {f_read_square : Addr} {oc_read_square kV_read_square dc_read_square pm_read_square cd_read_square ct_read_square : Value} {od_read_square an_read_square : Option Addr} {sl_read_square : Array (Option Value)}
    {f_draw : Addr} {oc_draw kV_draw dc_draw pm_draw cd_draw ct_draw : Value} {od_draw an_draw : Option Addr} {sl_draw : Array (Option Value)}
    {f_begin : Addr} {oc_begin kV_begin dc_begin pm_begin cd_begin ct_begin : Value} {od_begin an_begin : Option Addr} {sl_begin : Array (Option Value)}
    {f_grid : Addr} {oc_grid kV_grid dc_grid pm_grid cd_grid ct_grid : Value} {od_grid an_grid : Option Addr} {sl_grid : Array (Option Value)}
    {f_side : Addr} {oc_side kV_side dc_side pm_side cd_side ct_side : Value} {od_side an_side : Option Addr} {sl_side : Array (Option Value)}
    {tg_MOST_FIGURES : Tok}
    {f_signs : Addr} {oc_signs kV_signs dc_signs pm_signs cd_signs ct_signs : Value} {od_signs an_signs : Option Addr} {sl_signs : Array (Option Value)}
    {f_figures : Addr} {oc_figures kV_figures dc_figures pm_figures cd_figures ct_figures : Value} {od_figures an_figures : Option Addr} {sl_figures : Array (Option Value)}
    {f_read : Addr} {oc_read kV_read dc_read pm_read cd_read ct_read : Value} {od_read an_read : Option Addr} {sl_read : Array (Option Value)}
    {f_at : Addr} {oc_at kV_at dc_at pm_at cd_at ct_at : Value} {od_at an_at : Option Addr} {sl_at : Array (Option Value)}
    {f_right : Addr} {oc_right kV_right dc_right pm_right cd_right ct_right : Value} {od_right an_right : Option Addr} {sl_right : Array (Option Value)}
    {f_law : Addr} {oc_law kV_law dc_law pm_law cd_law ct_law : Value} {od_law an_law : Option Addr} {sl_law : Array (Option Value)}
    (g_LETTER_SIGNS : PySem.W.nsIn K mainGlobals "LETTER_SIGNS" = some (some (.str "ABCDEFGHJKLMNPQRSTUVWXYZ" tg_LETTER_SIGNS)))
    (g_FIGURE_SIGNS : PySem.W.nsIn K mainGlobals "FIGURE_SIGNS" = some (some (.str "0123456789" tg_FIGURE_SIGNS)))
    (g_MOST_LEVELS : PySem.W.nsIn K mainGlobals "MOST_LEVELS" = some (some (.int 5 tg_MOST_LEVELS)))
    (aC_Grid : PySem.W.nsIn K mainGlobals "Grid" = some (some (.ref CG)))
    (pg_Grid : PySem.W.plainGet K CG Str.empty = true)
    (hd_Grid : PySem.W.hasDictIn K CG = true)
    (po_Grid : PySem.W.plainOver K CG = true)
    (sa_Grid : PySem.W.findIn K (.ref CG) "__setattr__" = some (some (.builtin "object.__setattr__")))
    (n_Grid_text : PySem.W.findIn K (.ref CG) "text" = some none)
    (n_Grid_alphabets : PySem.W.findIn K (.ref CG) "alphabets" = some none)
    (ha_Grid : PySem.W.findIn K (.ref CG) "__class__" = some (some (.builtin "object.__class__")))
    (hn_Grid : PySem.W.specialIn K (.builtin "object.__class__") "__get__" = some (some (.builtin "getset_descriptor.__get__")))
    (ht_Grid : PySem.W.takesIn K (.builtin "object.__class__") = some true)
    (hm_Grid : PySem.W.mroIn K CG (.type "object") = some true)
    (ne_Grid : PySem.W.findIn K (.ref CG) "__ne__" = some (some (.builtin "object.__ne__")))
    (rf_Grid_str : PySem.W.subIn K (.ref CG) (.type "str") = some false)
    (rf_Grid_int : PySem.W.subIn K (.ref CG) (.type "int") = some false)
    (rf_Grid_bool : PySem.W.subIn K (.ref CG) (.type "bool") = some false)
    (rf_Grid_NoneType : PySem.W.subIn K (.ref CG) (.type "NoneType") = some false)
    (rf_Grid_tuple : PySem.W.subIn K (.ref CG) (.type "tuple") = some false)
    (rf_Grid_list : PySem.W.subIn K (.ref CG) (.type "list") = some false)
    (fo_Grid : PySem.W.findIn K (.ref CG) "__format__" = some (some (.builtin "object.__format__")))
    (ic_Grid : PySem.W.isClsIn K CG = true)
    (ty_Grid : PySem.W.typeIn K (.ref CG) = some (.type "type"))
    (aC_Square : PySem.W.nsIn K mainGlobals "Square" = some (some (.ref CS)))
    (pg_Square : PySem.W.plainGet K CS Str.empty = true)
    (hd_Square : PySem.W.hasDictIn K CS = true)
    (po_Square : PySem.W.plainOver K CS = true)
    (sa_Square : PySem.W.findIn K (.ref CS) "__setattr__" = some (some (.builtin "object.__setattr__")))
    (n_Square_grid : PySem.W.findIn K (.ref CS) "grid" = some none)
    (n_Square_level : PySem.W.findIn K (.ref CS) "level" = some none)
    (n_Square_east : PySem.W.findIn K (.ref CS) "east" = some none)
    (n_Square_north : PySem.W.findIn K (.ref CS) "north" = some none)
    (n_Square_signs : PySem.W.findIn K (.ref CS) "signs" = some none)
    (n_Square_sheet : PySem.W.findIn K (.ref CS) "sheet" = some none)
    (ha_Square : PySem.W.findIn K (.ref CS) "__class__" = some (some (.builtin "object.__class__")))
    (hn_Square : PySem.W.specialIn K (.builtin "object.__class__") "__get__" = some (some (.builtin "getset_descriptor.__get__")))
    (ht_Square : PySem.W.takesIn K (.builtin "object.__class__") = some true)
    (hm_Square : PySem.W.mroIn K CS (.type "object") = some true)
    (ne_Square : PySem.W.findIn K (.ref CS) "__ne__" = some (some (.builtin "object.__ne__")))
    (rf_Square_str : PySem.W.subIn K (.ref CS) (.type "str") = some false)
    (rf_Square_int : PySem.W.subIn K (.ref CS) (.type "int") = some false)
    (rf_Square_bool : PySem.W.subIn K (.ref CS) (.type "bool") = some false)
    (rf_Square_NoneType : PySem.W.subIn K (.ref CS) (.type "NoneType") = some false)
    (rf_Square_tuple : PySem.W.subIn K (.ref CS) (.type "tuple") = some false)
    (rf_Square_list : PySem.W.subIn K (.ref CS) (.type "list") = some false)
    (ic_Square : PySem.W.isClsIn K CS = true)
    (ty_Square : PySem.W.typeIn K (.ref CS) = some (.type "type"))
    (nb_Square : PySem.W.findIn K (.ref CS) "__bool__" = some none)
    (aX_BadGrid : PySem.W.nsIn K mainGlobals "BadGrid" = some (some (.ref CB)))
    (xL_BadGrid : K.lookup CB = some (excClassObj nm_BadGrid q_BadGrid CB N_BadGrid bs_BadGrid bm_BadGrid true sn_BadGrid sub_BadGrid ab_BadGrid col_BadGrid dd_BadGrid m0_BadGrid m1_BadGrid m2_BadGrid m3_BadGrid m5_BadGrid "ValueError.__new__"))
    (vX_BadGrid : PySem.HandSPX.refsVE bm_BadGrid = true)
    (sx_BadGrid : PySem.W.findIn K (.ref CB) "__setattr__" = some (some (.builtin "object.__setattr__")))
    (ga_BadGrid : PySem.W.findIn K (.ref CB) "__getattribute__" = some (some (.builtin "BaseException.__getattribute__")))
    (gg_BadGrid : PySem.W.findIn K (.ref CB) "__getattr__" = some none)
    (n_BadGrid_at : PySem.W.findIn K (.ref CB) "at" = some none)
    (kX_BadGrid : PySem.W.keepIn K (.ref CB) = true)
    (eX_BadGrid : PySem.W.subIn K (.ref CB) (.type "BaseException") = some true)
    (tX_BadGrid : PySem.W.typeIn K (.ref CB) = some (.type "type"))
    (hX_BadGrid : PySem.W.hasDictIn K CB = true)
    (iX_BadGrid : PySem.W.isClsIn K CB = true)
    (sX_BadGrid : PySem.W.subIn K (.ref CB) (.ref CB) = some true)
    (aX_BadSquare : PySem.W.nsIn K mainGlobals "BadSquare" = some (some (.ref CQ)))
    (xL_BadSquare : K.lookup CQ = some (excClassObj nm_BadSquare q_BadSquare CQ N_BadSquare bs_BadSquare bm_BadSquare true sn_BadSquare sub_BadSquare ab_BadSquare col_BadSquare dd_BadSquare m0_BadSquare m1_BadSquare m2_BadSquare m3_BadSquare m5_BadSquare "ValueError.__new__"))
    (vX_BadSquare : PySem.HandSPX.refsVE bm_BadSquare = true)
    (sx_BadSquare : PySem.W.findIn K (.ref CQ) "__setattr__" = some (some (.builtin "object.__setattr__")))
    (ga_BadSquare : PySem.W.findIn K (.ref CQ) "__getattribute__" = some (some (.builtin "BaseException.__getattribute__")))
    (gg_BadSquare : PySem.W.findIn K (.ref CQ) "__getattr__" = some none)
    (n_BadSquare_level : PySem.W.findIn K (.ref CQ) "level" = some none)
    (kX_BadSquare : PySem.W.keepIn K (.ref CQ) = true)
    (eX_BadSquare : PySem.W.subIn K (.ref CQ) (.type "BaseException") = some true)
    (tX_BadSquare : PySem.W.typeIn K (.ref CQ) = some (.type "type"))
    (hX_BadSquare : PySem.W.hasDictIn K CQ = true)
    (iX_BadSquare : PySem.W.isClsIn K CQ = true)
    (sX_BadSquare : PySem.W.subIn K (.ref CQ) (.ref CQ) = some true)
    (aG_GridError : PySem.W.nsIn K mainGlobals "GridError" = some (some (.ref CE)))
    (sg_GridError : PySem.W.specialIn K (.ref CE) "__getattribute__" = some (some (.builtin "type.__getattribute__")))
    (rd_GridError : PySem.W.readsIn K CE (.type "type") = true)
    (vV_GridError : PySem.W.findCls K (.ref CE) (.type "type") "__init__" = some (.val (.builtin "ValueError.__init__")))
    (a_BadGrid_init : PySem.W.findIn K (.ref CB) "__init__" = some (some (.ref f_BadGrid_init)))
    (t_BadGrid_init : PySem.W.typeIn K (.ref f_BadGrid_init) = some (.type "function"))
    (lu_BadGrid_init : K.lookup f_BadGrid_init = some ⟨oc_BadGrid_init, od_BadGrid_init, .func (PySem.W.fnOf "__init__" "BadGrid.__init__" (defArgs s_BadGrid_init) (defBody s_BadGrid_init) (defScope s_BadGrid_init) .none kV_BadGrid_init dc_BadGrid_init pm_BadGrid_init an_BadGrid_init cd_BadGrid_init ct_BadGrid_init), sl_BadGrid_init⟩)
    (c_BadGrid_init : PySem.W.codeIn K cd_BadGrid_init "BadGrid.__init__" = true)
    (k_BadGrid_init : PySem.W.keepIn K (.ref f_BadGrid_init) = true)
    (a_BadSquare_init : PySem.W.findIn K (.ref CQ) "__init__" = some (some (.ref f_BadSquare_init)))
    (t_BadSquare_init : PySem.W.typeIn K (.ref f_BadSquare_init) = some (.type "function"))
    (lu_BadSquare_init : K.lookup f_BadSquare_init = some ⟨oc_BadSquare_init, od_BadSquare_init, .func (PySem.W.fnOf "__init__" "BadSquare.__init__" (defArgs s_BadSquare_init) (defBody s_BadSquare_init) (defScope s_BadSquare_init) .none kV_BadSquare_init dc_BadSquare_init pm_BadSquare_init an_BadSquare_init cd_BadSquare_init ct_BadSquare_init), sl_BadSquare_init⟩)
    (c_BadSquare_init : PySem.W.codeIn K cd_BadSquare_init "BadSquare.__init__" = true)
    (k_BadSquare_init : PySem.W.keepIn K (.ref f_BadSquare_init) = true)
    (a_signs_by : PySem.W.nsIn K mainGlobals "signs_by" = some (some (.ref f_signs_by)))
    (lu_signs_by : K.lookup f_signs_by = some ⟨oc_signs_by, od_signs_by, .func (PySem.W.fnOf "signs_by" "signs_by" (defArgs s_signs_by) (defBody s_signs_by) (defScope s_signs_by) .none kV_signs_by dc_signs_by pm_signs_by an_signs_by cd_signs_by ct_signs_by), sl_signs_by⟩)
    (c_signs_by : PySem.W.codeIn K cd_signs_by "signs_by" = true)
    (k_signs_by : PySem.W.keepIn K (.ref f_signs_by) = true)
    (a_Grid_init : PySem.W.findIn K (.ref CG) "__init__" = some (some (.ref f_Grid_init)))
    (i_Grid_init : PySem.W.isFn K (.ref f_Grid_init) = true)
    (mk_Grid : PySem.W.makesIn K CG = true)
    (kc_Grid : PySem.W.keepIn K (.ref CG) = true)
    (lu_Grid_init : K.lookup f_Grid_init = some ⟨oc_Grid_init, od_Grid_init, .func (PySem.W.fnOf "__init__" "Grid.__init__" (defArgs s_Grid_init) (defBody s_Grid_init) (defScope s_Grid_init) .none kV_Grid_init dc_Grid_init pm_Grid_init an_Grid_init cd_Grid_init ct_Grid_init), sl_Grid_init⟩)
    (c_Grid_init : PySem.W.codeIn K cd_Grid_init "Grid.__init__" = true)
    (k_Grid_init : PySem.W.keepIn K (.ref f_Grid_init) = true)
    (a_Grid_eq : PySem.W.findIn K (.ref CG) "__eq__" = some (some (.ref f_Grid_eq)))
    (i_Grid_eq : PySem.W.isFn K (.ref f_Grid_eq) = true)
    (lu_Grid_eq : K.lookup f_Grid_eq = some ⟨oc_Grid_eq, od_Grid_eq, .func (PySem.W.fnOf "__eq__" "Grid.__eq__" (defArgs s_Grid_eq) (defBody s_Grid_eq) (defScope s_Grid_eq) .none kV_Grid_eq dc_Grid_eq pm_Grid_eq an_Grid_eq cd_Grid_eq ct_Grid_eq), sl_Grid_eq⟩)
    (c_Grid_eq : PySem.W.codeIn K cd_Grid_eq "Grid.__eq__" = true)
    (k_Grid_eq : PySem.W.keepIn K (.ref f_Grid_eq) = true)
    (a_Grid_len : PySem.W.findIn K (.ref CG) "__len__" = some (some (.ref f_Grid_len)))
    (i_Grid_len : PySem.W.isFn K (.ref f_Grid_len) = true)
    (lu_Grid_len : K.lookup f_Grid_len = some ⟨oc_Grid_len, od_Grid_len, .func (PySem.W.fnOf "__len__" "Grid.__len__" (defArgs s_Grid_len) (defBody s_Grid_len) (defScope s_Grid_len) .none kV_Grid_len dc_Grid_len pm_Grid_len an_Grid_len cd_Grid_len ct_Grid_len), sl_Grid_len⟩)
    (c_Grid_len : PySem.W.codeIn K cd_Grid_len "Grid.__len__" = true)
    (k_Grid_len : PySem.W.keepIn K (.ref f_Grid_len) = true)
    (a_Grid_str : PySem.W.findIn K (.ref CG) "__str__" = some (some (.ref f_Grid_str)))
    (i_Grid_str : PySem.W.isFn K (.ref f_Grid_str) = true)
    (lu_Grid_str : K.lookup f_Grid_str = some ⟨oc_Grid_str, od_Grid_str, .func (PySem.W.fnOf "__str__" "Grid.__str__" (defArgs s_Grid_str) (defBody s_Grid_str) (defScope s_Grid_str) .none kV_Grid_str dc_Grid_str pm_Grid_str an_Grid_str cd_Grid_str ct_Grid_str), sl_Grid_str⟩)
    (c_Grid_str : PySem.W.codeIn K cd_Grid_str "Grid.__str__" = true)
    (k_Grid_str : PySem.W.keepIn K (.ref f_Grid_str) = true)
    (a_Grid_repr : PySem.W.findIn K (.ref CG) "__repr__" = some (some (.ref f_Grid_repr)))
    (i_Grid_repr : PySem.W.isFn K (.ref f_Grid_repr) = true)
    (lu_Grid_repr : K.lookup f_Grid_repr = some ⟨oc_Grid_repr, od_Grid_repr, .func (PySem.W.fnOf "__repr__" "Grid.__repr__" (defArgs s_Grid_repr) (defBody s_Grid_repr) (defScope s_Grid_repr) .none kV_Grid_repr dc_Grid_repr pm_Grid_repr an_Grid_repr cd_Grid_repr ct_Grid_repr), sl_Grid_repr⟩)
    (c_Grid_repr : PySem.W.codeIn K cd_Grid_repr "Grid.__repr__" = true)
    (k_Grid_repr : PySem.W.keepIn K (.ref f_Grid_repr) = true)
    (a_Grid_alphabet : PySem.W.findIn K (.ref CG) "alphabet" = some (some (.ref f_Grid_alphabet)))
    (i_Grid_alphabet : PySem.W.isFn K (.ref f_Grid_alphabet) = true)
    (lu_Grid_alphabet : K.lookup f_Grid_alphabet = some ⟨oc_Grid_alphabet, od_Grid_alphabet, .func (PySem.W.fnOf "alphabet" "Grid.alphabet" (defArgs s_Grid_alphabet) (defBody s_Grid_alphabet) (defScope s_Grid_alphabet) .none kV_Grid_alphabet dc_Grid_alphabet pm_Grid_alphabet an_Grid_alphabet cd_Grid_alphabet ct_Grid_alphabet), sl_Grid_alphabet⟩)
    (c_Grid_alphabet : PySem.W.codeIn K cd_Grid_alphabet "Grid.alphabet" = true)
    (k_Grid_alphabet : PySem.W.keepIn K (.ref f_Grid_alphabet) = true)
    (a_Grid_cut : PySem.W.findIn K (.ref CG) "cut" = some (some (.ref f_Grid_cut)))
    (i_Grid_cut : PySem.W.isFn K (.ref f_Grid_cut) = true)
    (lu_Grid_cut : K.lookup f_Grid_cut = some ⟨oc_Grid_cut, od_Grid_cut, .func (PySem.W.fnOf "cut" "Grid.cut" (defArgs s_Grid_cut) (defBody s_Grid_cut) (defScope s_Grid_cut) .none kV_Grid_cut dc_Grid_cut pm_Grid_cut an_Grid_cut cd_Grid_cut ct_Grid_cut), sl_Grid_cut⟩)
    (c_Grid_cut : PySem.W.codeIn K cd_Grid_cut "Grid.cut" = true)
    (k_Grid_cut : PySem.W.keepIn K (.ref f_Grid_cut) = true)
    (a_Grid_side : PySem.W.findIn K (.ref CG) "side" = some (some (.ref f_Grid_side)))
    (i_Grid_side : PySem.W.isFn K (.ref f_Grid_side) = true)
    (lu_Grid_side : K.lookup f_Grid_side = some ⟨oc_Grid_side, od_Grid_side, .func (PySem.W.fnOf "side" "Grid.side" (defArgs s_Grid_side) (defBody s_Grid_side) (defScope s_Grid_side) .none kV_Grid_side dc_Grid_side pm_Grid_side an_Grid_side cd_Grid_side ct_Grid_side), sl_Grid_side⟩)
    (c_Grid_side : PySem.W.codeIn K cd_Grid_side "Grid.side" = true)
    (k_Grid_side : PySem.W.keepIn K (.ref f_Grid_side) = true)
    (a_hold_level : PySem.W.nsIn K mainGlobals "hold_level" = some (some (.ref f_hold_level)))
    (lu_hold_level : K.lookup f_hold_level = some ⟨oc_hold_level, od_hold_level, .func (PySem.W.fnOf "hold_level" "hold_level" (defArgs s_hold_level) (defBody s_hold_level) (defScope s_hold_level) .none kV_hold_level dc_hold_level pm_hold_level an_hold_level cd_hold_level ct_hold_level), sl_hold_level⟩)
    (c_hold_level : PySem.W.codeIn K cd_hold_level "hold_level" = true)
    (k_hold_level : PySem.W.keepIn K (.ref f_hold_level) = true)
    (a_Square_init : PySem.W.findIn K (.ref CS) "__init__" = some (some (.ref f_Square_init)))
    (i_Square_init : PySem.W.isFn K (.ref f_Square_init) = true)
    (mk_Square : PySem.W.makesIn K CS = true)
    (kc_Square : PySem.W.keepIn K (.ref CS) = true)
    (lu_Square_init : K.lookup f_Square_init = some ⟨oc_Square_init, od_Square_init, .func (PySem.W.fnOf "__init__" "Square.__init__" (defArgs s_Square_init) (defBody s_Square_init) (defScope s_Square_init) .none kV_Square_init dc_Square_init pm_Square_init an_Square_init cd_Square_init ct_Square_init), sl_Square_init⟩)
    (c_Square_init : PySem.W.codeIn K cd_Square_init "Square.__init__" = true)
    (k_Square_init : PySem.W.keepIn K (.ref f_Square_init) = true)
    (a_Square_eq : PySem.W.findIn K (.ref CS) "__eq__" = some (some (.ref f_Square_eq)))
    (i_Square_eq : PySem.W.isFn K (.ref f_Square_eq) = true)
    (lu_Square_eq : K.lookup f_Square_eq = some ⟨oc_Square_eq, od_Square_eq, .func (PySem.W.fnOf "__eq__" "Square.__eq__" (defArgs s_Square_eq) (defBody s_Square_eq) (defScope s_Square_eq) .none kV_Square_eq dc_Square_eq pm_Square_eq an_Square_eq cd_Square_eq ct_Square_eq), sl_Square_eq⟩)
    (c_Square_eq : PySem.W.codeIn K cd_Square_eq "Square.__eq__" = true)
    (k_Square_eq : PySem.W.keepIn K (.ref f_Square_eq) = true)
    (a_Square_len : PySem.W.findIn K (.ref CS) "__len__" = some (some (.ref f_Square_len)))
    (i_Square_len : PySem.W.isFn K (.ref f_Square_len) = true)
    (lu_Square_len : K.lookup f_Square_len = some ⟨oc_Square_len, od_Square_len, .func (PySem.W.fnOf "__len__" "Square.__len__" (defArgs s_Square_len) (defBody s_Square_len) (defScope s_Square_len) .none kV_Square_len dc_Square_len pm_Square_len an_Square_len cd_Square_len ct_Square_len), sl_Square_len⟩)
    (c_Square_len : PySem.W.codeIn K cd_Square_len "Square.__len__" = true)
    (k_Square_len : PySem.W.keepIn K (.ref f_Square_len) = true)
    (a_Square_str : PySem.W.findIn K (.ref CS) "__str__" = some (some (.ref f_Square_str)))
    (i_Square_str : PySem.W.isFn K (.ref f_Square_str) = true)
    (lu_Square_str : K.lookup f_Square_str = some ⟨oc_Square_str, od_Square_str, .func (PySem.W.fnOf "__str__" "Square.__str__" (defArgs s_Square_str) (defBody s_Square_str) (defScope s_Square_str) .none kV_Square_str dc_Square_str pm_Square_str an_Square_str cd_Square_str ct_Square_str), sl_Square_str⟩)
    (c_Square_str : PySem.W.codeIn K cd_Square_str "Square.__str__" = true)
    (k_Square_str : PySem.W.keepIn K (.ref f_Square_str) = true)
    (a_Square_repr : PySem.W.findIn K (.ref CS) "__repr__" = some (some (.ref f_Square_repr)))
    (i_Square_repr : PySem.W.isFn K (.ref f_Square_repr) = true)
    (lu_Square_repr : K.lookup f_Square_repr = some ⟨oc_Square_repr, od_Square_repr, .func (PySem.W.fnOf "__repr__" "Square.__repr__" (defArgs s_Square_repr) (defBody s_Square_repr) (defScope s_Square_repr) .none kV_Square_repr dc_Square_repr pm_Square_repr an_Square_repr cd_Square_repr ct_Square_repr), sl_Square_repr⟩)
    (c_Square_repr : PySem.W.codeIn K cd_Square_repr "Square.__repr__" = true)
    (k_Square_repr : PySem.W.keepIn K (.ref f_Square_repr) = true)
    (a_Square_wider : PySem.W.findIn K (.ref CS) "wider" = some (some (.ref f_Square_wider)))
    (i_Square_wider : PySem.W.isFn K (.ref f_Square_wider) = true)
    (lu_Square_wider : K.lookup f_Square_wider = some ⟨oc_Square_wider, od_Square_wider, .func (PySem.W.fnOf "wider" "Square.wider" (defArgs s_Square_wider) (defBody s_Square_wider) (defScope s_Square_wider) .none kV_Square_wider dc_Square_wider pm_Square_wider an_Square_wider cd_Square_wider ct_Square_wider), sl_Square_wider⟩)
    (c_Square_wider : PySem.W.codeIn K cd_Square_wider "Square.wider" = true)
    (k_Square_wider : PySem.W.keepIn K (.ref f_Square_wider) = true)
    (aX_NoReference : PySem.W.nsIn K mainGlobals "NoReference" = some (some (.ref CF)))
    (xL_NoReference : K.lookup CF = some (excClassObj nm_NoReference q_NoReference CF N_NoReference bs_NoReference bm_NoReference true sn_NoReference sub_NoReference ab_NoReference col_NoReference dd_NoReference m0_NoReference m1_NoReference m2_NoReference m3_NoReference m5_NoReference "ValueError.__new__"))
    (vX_NoReference : PySem.HandSPX.refsVE bm_NoReference = true)
    (sx_NoReference : PySem.W.findIn K (.ref CF) "__setattr__" = some (some (.builtin "object.__setattr__")))
    (ga_NoReference : PySem.W.findIn K (.ref CF) "__getattribute__" = some (some (.builtin "BaseException.__getattribute__")))
    (gg_NoReference : PySem.W.findIn K (.ref CF) "__getattr__" = some none)
    (n_NoReference_text : PySem.W.findIn K (.ref CF) "text" = some none)
    (n_NoReference_at : PySem.W.findIn K (.ref CF) "at" = some none)
    (kX_NoReference : PySem.W.keepIn K (.ref CF) = true)
    (eX_NoReference : PySem.W.subIn K (.ref CF) (.type "BaseException") = some true)
    (tX_NoReference : PySem.W.typeIn K (.ref CF) = some (.type "type"))
    (hX_NoReference : PySem.W.hasDictIn K CF = true)
    (iX_NoReference : PySem.W.isClsIn K CF = true)
    (sX_NoReference : PySem.W.subIn K (.ref CF) (.ref CF) = some true)
    (a_NoReference_init : PySem.W.findIn K (.ref CF) "__init__" = some (some (.ref f_NoReference_init)))
    (t_NoReference_init : PySem.W.typeIn K (.ref f_NoReference_init) = some (.type "function"))
    (lu_NoReference_init : K.lookup f_NoReference_init = some ⟨oc_NoReference_init, od_NoReference_init, .func (PySem.W.fnOf "__init__" "NoReference.__init__" (defArgs s_NoReference_init) (defBody s_NoReference_init) (defScope s_NoReference_init) .none kV_NoReference_init dc_NoReference_init pm_NoReference_init an_NoReference_init cd_NoReference_init ct_NoReference_init), sl_NoReference_init⟩)
    (c_NoReference_init : PySem.W.codeIn K cd_NoReference_init "NoReference.__init__" = true)
    (k_NoReference_init : PySem.W.keepIn K (.ref f_NoReference_init) = true)
    (a_number_begun : PySem.W.nsIn K mainGlobals "number_begun" = some (some (.ref f_number_begun)))
    (lu_number_begun : K.lookup f_number_begun = some ⟨oc_number_begun, od_number_begun, .func (PySem.W.fnOf "number_begun" "number_begun" (defArgs s_number_begun) (defBody s_number_begun) (defScope s_number_begun) .none kV_number_begun dc_number_begun pm_number_begun an_number_begun cd_number_begun ct_number_begun), sl_number_begun⟩)
    (c_number_begun : PySem.W.codeIn K cd_number_begun "number_begun" = true)
    (k_number_begun : PySem.W.keepIn K (.ref f_number_begun) = true)
    (a_signs_begun : PySem.W.nsIn K mainGlobals "signs_begun" = some (some (.ref f_signs_begun)))
    (lu_signs_begun : K.lookup f_signs_begun = some ⟨oc_signs_begun, od_signs_begun, .func (PySem.W.fnOf "signs_begun" "signs_begun" (defArgs s_signs_begun) (defBody s_signs_begun) (defScope s_signs_begun) .none kV_signs_begun dc_signs_begun pm_signs_begun an_signs_begun cd_signs_begun ct_signs_begun), sl_signs_begun⟩)
    (c_signs_begun : PySem.W.codeIn K cd_signs_begun "signs_begun" = true)
    (k_signs_begun : PySem.W.keepIn K (.ref f_signs_begun) = true)
    (a_square_by : PySem.W.nsIn K mainGlobals "square_by" = some (some (.ref f_square_by)))
    (lu_square_by : K.lookup f_square_by = some ⟨oc_square_by, od_square_by, .func (PySem.W.fnOf "square_by" "square_by" (defArgs s_square_by) (defBody s_square_by) (defScope s_square_by) .none kV_square_by dc_square_by pm_square_by an_square_by cd_square_by ct_square_by), sl_square_by⟩)
    (c_square_by : PySem.W.codeIn K cd_square_by "square_by" = true)
    (k_square_by : PySem.W.keepIn K (.ref f_square_by) = true)
    (a_read_square : PySem.W.nsIn K mainGlobals "read_square" = some (some (.ref f_read_square)))
    (lu_read_square : K.lookup f_read_square = some ⟨oc_read_square, od_read_square, .func (PySem.W.fnOf "read_square" "read_square" (defArgs s_read_square) (defBody s_read_square) (defScope s_read_square) .none kV_read_square dc_read_square pm_read_square an_read_square cd_read_square ct_read_square), sl_read_square⟩)
    (c_read_square : PySem.W.codeIn K cd_read_square "read_square" = true)
    (k_read_square : PySem.W.keepIn K (.ref f_read_square) = true)
    (a_draw : PySem.W.nsIn K mainGlobals "_law_draw" = some (some (.ref f_draw)))
    (lu_draw : K.lookup f_draw = some ⟨oc_draw, od_draw, .func (PySem.W.fnOf "_law_draw" "_law_draw" (defArgs s_draw) (defBody s_draw) (defScope s_draw) .none kV_draw dc_draw pm_draw an_draw cd_draw ct_draw), sl_draw⟩)
    (c_draw : PySem.W.codeIn K cd_draw "_law_draw" = true)
    (k_draw : PySem.W.keepIn K (.ref f_draw) = true)
    (a_begin : PySem.W.nsIn K mainGlobals "_law_begin" = some (some (.ref f_begin)))
    (lu_begin : K.lookup f_begin = some ⟨oc_begin, od_begin, .func (PySem.W.fnOf "_law_begin" "_law_begin" (defArgs s_begin) (defBody s_begin) (defScope s_begin) .none kV_begin dc_begin pm_begin an_begin cd_begin ct_begin), sl_begin⟩)
    (c_begin : PySem.W.codeIn K cd_begin "_law_begin" = true)
    (k_begin : PySem.W.keepIn K (.ref f_begin) = true)
    (a_grid : PySem.W.nsIn K mainGlobals "_law_grid" = some (some (.ref f_grid)))
    (lu_grid : K.lookup f_grid = some ⟨oc_grid, od_grid, .func (PySem.W.fnOf "_law_grid" "_law_grid" (defArgs s_grid) (defBody s_grid) (defScope s_grid) .none kV_grid dc_grid pm_grid an_grid cd_grid ct_grid), sl_grid⟩)
    (c_grid : PySem.W.codeIn K cd_grid "_law_grid" = true)
    (k_grid : PySem.W.keepIn K (.ref f_grid) = true)
    (a_side : PySem.W.nsIn K mainGlobals "_law_side" = some (some (.ref f_side)))
    (lu_side : K.lookup f_side = some ⟨oc_side, od_side, .func (PySem.W.fnOf "_law_side" "_law_side" (defArgs s_side) (defBody s_side) (defScope s_side) .none kV_side dc_side pm_side an_side cd_side ct_side), sl_side⟩)
    (c_side : PySem.W.codeIn K cd_side "_law_side" = true)
    (k_side : PySem.W.keepIn K (.ref f_side) = true)
    (g_MOST_FIGURES : PySem.W.nsIn K mainGlobals "MOST_FIGURES" = some (some (.int 9 tg_MOST_FIGURES)))
    (a_signs : PySem.W.nsIn K mainGlobals "_law_signs" = some (some (.ref f_signs)))
    (lu_signs : K.lookup f_signs = some ⟨oc_signs, od_signs, .func (PySem.W.fnOf "_law_signs" "_law_signs" (defArgs s_signs) (defBody s_signs) (defScope s_signs) .none kV_signs dc_signs pm_signs an_signs cd_signs ct_signs), sl_signs⟩)
    (c_signs : PySem.W.codeIn K cd_signs "_law_signs" = true)
    (k_signs : PySem.W.keepIn K (.ref f_signs) = true)
    (a_figures : PySem.W.nsIn K mainGlobals "_law_figures" = some (some (.ref f_figures)))
    (lu_figures : K.lookup f_figures = some ⟨oc_figures, od_figures, .func (PySem.W.fnOf "_law_figures" "_law_figures" (defArgs s_figures) (defBody s_figures) (defScope s_figures) .none kV_figures dc_figures pm_figures an_figures cd_figures ct_figures), sl_figures⟩)
    (c_figures : PySem.W.codeIn K cd_figures "_law_figures" = true)
    (k_figures : PySem.W.keepIn K (.ref f_figures) = true)
    (a_read : PySem.W.nsIn K mainGlobals "_law_read" = some (some (.ref f_read)))
    (lu_read : K.lookup f_read = some ⟨oc_read, od_read, .func (PySem.W.fnOf "_law_read" "_law_read" (defArgs s_read) (defBody s_read) (defScope s_read) .none kV_read dc_read pm_read an_read cd_read ct_read), sl_read⟩)
    (c_read : PySem.W.codeIn K cd_read "_law_read" = true)
    (k_read : PySem.W.keepIn K (.ref f_read) = true)
    (a_at : PySem.W.nsIn K mainGlobals "_law_at" = some (some (.ref f_at)))
    (lu_at : K.lookup f_at = some ⟨oc_at, od_at, .func (PySem.W.fnOf "_law_at" "_law_at" (defArgs s_at) (defBody s_at) (defScope s_at) .none kV_at dc_at pm_at an_at cd_at ct_at), sl_at⟩)
    (c_at : PySem.W.codeIn K cd_at "_law_at" = true)
    (k_at : PySem.W.keepIn K (.ref f_at) = true)
    (a_right : PySem.W.nsIn K mainGlobals "_law_right" = some (some (.ref f_right)))
    (lu_right : K.lookup f_right = some ⟨oc_right, od_right, .func (PySem.W.fnOf "_law_right" "_law_right" (defArgs s_right) (defBody s_right) (defScope s_right) .none kV_right dc_right pm_right an_right cd_right ct_right), sl_right⟩)
    (c_right : PySem.W.codeIn K cd_right "_law_right" = true)
    (k_right : PySem.W.keepIn K (.ref f_right) = true)
    (a_law : PySem.W.nsIn K mainGlobals "law" = some (some (.ref f_law)))
    (lu_law : K.lookup f_law = some ⟨oc_law, od_law, .func (PySem.W.fnOf "law" "law" (defArgs s_law) (defBody s_law) (defScope s_law) .none kV_law dc_law pm_law an_law cd_law ct_law), sl_law⟩)
    (c_law : PySem.W.codeIn K cd_law "law" = true)
    (k_law : PySem.W.keepIn K (.ref f_law) = true)
    (z_len : PySem.W.nsIn K mainGlobals "len" = some none)
    (z_abs : PySem.W.nsIn K mainGlobals "abs" = some none)
    (z_range : PySem.W.nsIn K mainGlobals "range" = some none)
    (z_int : PySem.W.nsIn K mainGlobals "int" = some none)
    (z_str : PySem.W.nsIn K mainGlobals "str" = some none)
    (z_repr : PySem.W.nsIn K mainGlobals "repr" = some none)
    (z_isinstance : PySem.W.nsIn K mainGlobals "isinstance" = some none)
    (z_tuple : PySem.W.nsIn K mainGlobals "tuple" = some none)
    (z_enumerate : PySem.W.nsIn K mainGlobals "enumerate" = some none)
    (z_min : PySem.W.nsIn K mainGlobals "min" = some none)
    (z_any : PySem.W.nsIn K mainGlobals "any" = some none)
    (z_all : PySem.W.nsIn K mainGlobals "all" = some none)
    (z_max : PySem.W.nsIn K mainGlobals "max" = some none)
    (z_bool : PySem.W.nsIn K mainGlobals "bool" = some none)
    (z_zip : PySem.W.nsIn K mainGlobals "zip" = some none)
    (z_reversed : PySem.W.nsIn K mainGlobals "reversed" = some none)
    (z_list : PySem.W.nsIn K mainGlobals "list" = some none)
    (z_sum : PySem.W.nsIn K mainGlobals "sum" = some none)
    (z_sorted : PySem.W.nsIn K mainGlobals "sorted" = some none)
    (z_set : PySem.W.nsIn K mainGlobals "set" = some none)
    (z_dict : PySem.W.nsIn K mainGlobals "dict" = some none)
    : ∃ fd : FuncData, (∀ (s : Shared) (v : Value), BindsTo s fd ⟨[v], []⟩ [("_law_script", v)]) ∧ ∀ base : Heap, K.In base → base.Ns mainGlobals mg → FnG l.prog w K mg base CX0 10 fa fd ["_law_script"] (lift K spLaw) := by
  have e := hfa.symm.trans (PySem.W.mg_of X G a_law)
  cases e
  have T : T14 mg := ⟨PySem.W.mg_none_of X G z_len, PySem.W.mg_none_of X G z_abs, PySem.W.mg_none_of X G z_range, PySem.W.mg_none_of X G z_int, PySem.W.mg_none_of X G z_str, PySem.W.mg_none_of X G z_repr, PySem.W.mg_none_of X G z_isinstance, PySem.W.mg_none_of X G z_tuple, PySem.W.mg_none_of X G z_enumerate, PySem.W.mg_none_of X G z_min, PySem.W.mg_none_of X G z_any, PySem.W.mg_none_of X G z_all, PySem.W.mg_none_of X G z_max, PySem.W.mg_none_of X G z_bool, PySem.W.mg_none_of X G z_zip, PySem.W.mg_none_of X G z_reversed, PySem.W.mg_none_of X G z_list, PySem.W.mg_none_of X G z_sum, PySem.W.mg_none_of X G z_sorted, PySem.W.mg_none_of X G z_set, PySem.W.mg_none_of X G z_dict, ⟨_, PySem.W.mg_of X G g_LETTER_SIGNS⟩, ⟨_, PySem.W.mg_of X G g_FIGURE_SIGNS⟩, ⟨_, PySem.W.mg_of X G g_MOST_LEVELS⟩, ⟨_, PySem.W.mg_of X G g_MOST_FIGURES⟩⟩
  have O_Grid : Own K CG ["text", "alphabets"] := ⟨⟨pg_Grid, hd_Grid, po_Grid, sa_Grid⟩, fun f hf => by simp only [List.mem_cons, List.not_mem_nil, or_false] at hf; rcases hf with rfl | rfl <;> assumption, ha_Grid, hn_Grid, ht_Grid, hm_Grid⟩
  have G_Grid := PySem.W.mg_of X G aC_Grid
  have N_Grid : NoNe K CG := ⟨ne_Grid, hm_Grid⟩
  have R_Grid : Refl K CG := ⟨rf_Grid_str, rf_Grid_int, rf_Grid_bool, rf_Grid_NoneType, rf_Grid_tuple, rf_Grid_list⟩
  have W_Grid : Fmt K CG := ⟨fo_Grid, hm_Grid⟩
  have I_Grid : IsC K CG := ⟨ic_Grid, ty_Grid⟩
  have O_Square : Own K CS ["grid", "level", "east", "north", "signs", "sheet"] := ⟨⟨pg_Square, hd_Square, po_Square, sa_Square⟩, fun f hf => by simp only [List.mem_cons, List.not_mem_nil, or_false] at hf; rcases hf with rfl | rfl | rfl | rfl | rfl | rfl <;> assumption, ha_Square, hn_Square, ht_Square, hm_Square⟩
  have G_Square := PySem.W.mg_of X G aC_Square
  have N_Square : NoNe K CS := ⟨ne_Square, hm_Square⟩
  have R_Square : Refl K CS := ⟨rf_Square_str, rf_Square_int, rf_Square_bool, rf_Square_NoneType, rf_Square_tuple, rf_Square_list⟩
  have I_Square : IsC K CS := ⟨ic_Square, ty_Square⟩
  have NB_Square : NoBool K CS := nb_Square
  have E_BadGrid : OexC K CB := ⟨⟨_, _, _, _, _, _, _, _, _, _, _, _, _, _, _, xL_BadGrid, vX_BadGrid⟩, sx_BadGrid, eX_BadGrid, tX_BadGrid, kX_BadGrid⟩
  have E_BadSquare : OexC K CQ := ⟨⟨_, _, _, _, _, _, _, _, _, _, _, _, _, _, _, xL_BadSquare, vX_BadSquare⟩, sx_BadSquare, eX_BadSquare, tX_BadSquare, kX_BadSquare⟩
  have B_GridError : GBase K mg "GridError" CE := ⟨PySem.W.mg_of X G aG_GridError, sg_GridError, rd_GridError, vV_GridError⟩
  have F_BadGrid_init := fun_mk (st := s_BadGrid_init) lu_BadGrid_init c_BadGrid_init k_BadGrid_init
  have F_BadSquare_init := fun_mk (st := s_BadSquare_init) lu_BadSquare_init c_BadSquare_init k_BadSquare_init
  have F_signs_by := fun_mk (st := s_signs_by) lu_signs_by c_signs_by k_signs_by
  have F_Grid_init := fun_mk (st := s_Grid_init) lu_Grid_init c_Grid_init k_Grid_init
  have F_Grid_eq := fun_mk (st := s_Grid_eq) lu_Grid_eq c_Grid_eq k_Grid_eq
  have F_Grid_len := fun_mk (st := s_Grid_len) lu_Grid_len c_Grid_len k_Grid_len
  have F_Grid_str := fun_mk (st := s_Grid_str) lu_Grid_str c_Grid_str k_Grid_str
  have F_Grid_repr := fun_mk (st := s_Grid_repr) lu_Grid_repr c_Grid_repr k_Grid_repr
  have F_Grid_alphabet := fun_mk (st := s_Grid_alphabet) lu_Grid_alphabet c_Grid_alphabet k_Grid_alphabet
  have F_Grid_cut := fun_mk (st := s_Grid_cut) lu_Grid_cut c_Grid_cut k_Grid_cut
  have F_Grid_side := fun_mk (st := s_Grid_side) lu_Grid_side c_Grid_side k_Grid_side
  have F_hold_level := fun_mk (st := s_hold_level) lu_hold_level c_hold_level k_hold_level
  have F_Square_init := fun_mk (st := s_Square_init) lu_Square_init c_Square_init k_Square_init
  have F_Square_eq := fun_mk (st := s_Square_eq) lu_Square_eq c_Square_eq k_Square_eq
  have F_Square_len := fun_mk (st := s_Square_len) lu_Square_len c_Square_len k_Square_len
  have F_Square_str := fun_mk (st := s_Square_str) lu_Square_str c_Square_str k_Square_str
  have F_Square_repr := fun_mk (st := s_Square_repr) lu_Square_repr c_Square_repr k_Square_repr
  have F_Square_wider := fun_mk (st := s_Square_wider) lu_Square_wider c_Square_wider k_Square_wider
  have E_NoReference : OexC K CF := ⟨⟨_, _, _, _, _, _, _, _, _, _, _, _, _, _, _, xL_NoReference, vX_NoReference⟩, sx_NoReference, eX_NoReference, tX_NoReference, kX_NoReference⟩
  have F_NoReference_init := fun_mk (st := s_NoReference_init) lu_NoReference_init c_NoReference_init k_NoReference_init
  have F_number_begun := fun_mk (st := s_number_begun) lu_number_begun c_number_begun k_number_begun
  have F_signs_begun := fun_mk (st := s_signs_begun) lu_signs_begun c_signs_begun k_signs_begun
  have F_square_by := fun_mk (st := s_square_by) lu_square_by c_square_by k_square_by
  have F_read_square := fun_mk (st := s_read_square) lu_read_square c_read_square k_read_square
  have F_draw := fun_mk (st := s_draw) lu_draw c_draw k_draw
  have F_begin := fun_mk (st := s_begin) lu_begin c_begin k_begin
  have F_grid := fun_mk (st := s_grid) lu_grid c_grid k_grid
  have F_side := fun_mk (st := s_side) lu_side c_side k_side
  have F_signs := fun_mk (st := s_signs) lu_signs c_signs k_signs
  have F_figures := fun_mk (st := s_figures) lu_figures c_figures k_figures
  have F_read := fun_mk (st := s_read) lu_read c_read k_read
  have F_at := fun_mk (st := s_at) lu_at c_at k_at
  have F_right := fun_mk (st := s_right) lu_right c_right k_right
  have F_law := fun_mk (st := s_law) lu_law c_law k_law
  refine ⟨PySem.W.fnOf "law" "law" (defArgs s_law) (defBody s_law) (defScope s_law) .none kV_law dc_law pm_law an_law cd_law ct_law, fun s v => .of_eq rfl, fun base hb hn => ?_⟩
  have X_BadGrid : ExcOk l.prog w K mg base "BadGrid" CB ["at"] BadGrid_init.ps := ⟨E_BadGrid, ⟨ga_BadGrid, gg_BadGrid, eX_BadGrid, hX_BadGrid⟩, exm_own eX_BadGrid iX_BadGrid tX_BadGrid sX_BadGrid, fun f hf => by simp only [List.mem_cons, List.not_mem_nil, or_false] at hf; rcases hf with rfl <;> assumption, PySem.W.mg_of X G aX_BadGrid, ⟨_, _, a_BadGrid_init, t_BadGrid_init, bd_BadGrid_init F_BadGrid_init, ok_BadGrid_init F_BadGrid_init E_BadGrid n_BadGrid_at B_GridError⟩⟩
  have X_BadSquare : ExcOk l.prog w K mg base "BadSquare" CQ ["level"] BadSquare_init.ps := ⟨E_BadSquare, ⟨ga_BadSquare, gg_BadSquare, eX_BadSquare, hX_BadSquare⟩, exm_own eX_BadSquare iX_BadSquare tX_BadSquare sX_BadSquare, fun f hf => by simp only [List.mem_cons, List.not_mem_nil, or_false] at hf; rcases hf with rfl <;> assumption, PySem.W.mg_of X G aX_BadSquare, ⟨_, _, a_BadSquare_init, t_BadSquare_init, bd_BadSquare_init F_BadSquare_init, ok_BadSquare_init F_BadSquare_init E_BadSquare n_BadSquare_level B_GridError⟩⟩
  have C_signs_by : Callee l.prog w K mg base CX0 1 "signs_by" s_signs_by signs_by.ps (lift K spSigns) := ⟨_, _, PySem.W.mg_of X G a_signs_by, F_signs_by, bd_signs_by F_signs_by, ok_signs_by F_signs_by T⟩
  have C_Grid : Maker l.prog w K mg base (L2.CX l.prog w) 3 "Grid" CG (dR s_Grid_init "__init__" "Grid.__init__" K) Grid_init.ps (liftI K CG (spGrid K CB)) := ⟨_, _, PySem.W.mg_of X G aC_Grid, ⟨mk_Grid, a_Grid_init, i_Grid_init, kc_Grid⟩, F_Grid_init, bd_Grid_init F_Grid_init, ok_Grid_init F_Grid_init O_Grid X_BadGrid T C_signs_by⟩
  have C_Grid_eq : Method l.prog w K mg base CX0 1 CG "__eq__" (dR s_Grid_eq "__eq__" "Grid.__eq__" K) Grid_eq.ps (lift K (spGEq K CG)) := ⟨_, _, O_Grid.cl, ⟨a_Grid_eq, i_Grid_eq, k_Grid_eq⟩, F_Grid_eq, bd_Grid_eq F_Grid_eq, ok_Grid_eq F_Grid_eq O_Grid T G_Grid⟩
  have C_Grid_len : Method l.prog w K mg base CX0 1 CG "__len__" (dR s_Grid_len "__len__" "Grid.__len__" K) Grid_len.ps (lift K (spGLen CG)) := ⟨_, _, O_Grid.cl, ⟨a_Grid_len, i_Grid_len, k_Grid_len⟩, F_Grid_len, bd_Grid_len F_Grid_len, ok_Grid_len F_Grid_len O_Grid T⟩
  have C_Grid_str : Method l.prog w K mg base CX0 1 CG "__str__" (dR s_Grid_str "__str__" "Grid.__str__" K) Grid_str.ps (lift K (spGStr CG)) := ⟨_, _, O_Grid.cl, ⟨a_Grid_str, i_Grid_str, k_Grid_str⟩, F_Grid_str, bd_Grid_str F_Grid_str, ok_Grid_str F_Grid_str O_Grid T⟩
  have C_Grid_repr : Method l.prog w K mg base CX0 1 CG "__repr__" (dR s_Grid_repr "__repr__" "Grid.__repr__" K) Grid_repr.ps (lift K (spGRepr CG)) := ⟨_, _, O_Grid.cl, ⟨a_Grid_repr, i_Grid_repr, k_Grid_repr⟩, F_Grid_repr, bd_Grid_repr F_Grid_repr, ok_Grid_repr F_Grid_repr O_Grid T⟩
  have C_Grid_alphabet : Method l.prog w K mg base CX0 1 CG "alphabet" (dR s_Grid_alphabet "alphabet" "Grid.alphabet" K) Grid_alphabet.ps (lift K (spAlphabet CG)) := ⟨_, _, O_Grid.cl, ⟨a_Grid_alphabet, i_Grid_alphabet, k_Grid_alphabet⟩, F_Grid_alphabet, bd_Grid_alphabet F_Grid_alphabet, ok_Grid_alphabet F_Grid_alphabet O_Grid⟩
  have C_Grid_cut : Method l.prog w K mg base CX0 2 CG "cut" (dR s_Grid_cut "cut" "Grid.cut" K) Grid_cut.ps (lift K (spCut CG)) := ⟨_, _, O_Grid.cl, ⟨a_Grid_cut, i_Grid_cut, k_Grid_cut⟩, F_Grid_cut, bd_Grid_cut F_Grid_cut, ok_Grid_cut F_Grid_cut O_Grid T C_Grid_alphabet⟩
  have C_Grid_side : Method l.prog w K mg base CX0 1 CG "side" (dR s_Grid_side "side" "Grid.side" K) Grid_side.ps (lift K (spSide CG)) := ⟨_, _, O_Grid.cl, ⟨a_Grid_side, i_Grid_side, k_Grid_side⟩, F_Grid_side, bd_Grid_side F_Grid_side, ok_Grid_side F_Grid_side O_Grid T⟩
  have GF : GridFn l.prog w K mg base CG CB := ⟨O_Grid, G_Grid, N_Grid, R_Grid, W_Grid, I_Grid, C_Grid, C_Grid_eq, C_Grid_len, C_Grid_str, C_Grid_repr, C_Grid_alphabet, C_Grid_cut, C_Grid_side⟩
  have C_hold_level : Callee l.prog w K mg base (L2.CX l.prog w) 3 "hold_level" s_hold_level hold_level.ps (lift K (spHold K CQ)) := ⟨_, _, PySem.W.mg_of X G a_hold_level, F_hold_level, bd_hold_level F_hold_level, ok_hold F_hold_level X_BadSquare T⟩
  have C_Square : Maker l.prog w K mg base (L2.CX l.prog w) 4 "Square" CS (dR s_Square_init "__init__" "Square.__init__" K) Square_init.ps (liftI K CS (spSquare K CG CQ)) := ⟨_, _, PySem.W.mg_of X G aC_Square, ⟨mk_Square, a_Square_init, i_Square_init, kc_Square⟩, F_Square_init, bd_Square_init F_Square_init, ok_Square_init F_Square_init O_Square T GF C_hold_level⟩
  have C_Square_eq : Method l.prog w K mg base CX0 3 CS "__eq__" (dR s_Square_eq "__eq__" "Square.__eq__" K) Square_eq.ps (lift K (spSqEq K CS CG)) := ⟨_, _, O_Square.cl, ⟨a_Square_eq, i_Square_eq, k_Square_eq⟩, F_Square_eq, bd_Square_eq F_Square_eq, ok_Square_eq F_Square_eq O_Square T G_Square GF⟩
  have C_Square_len : Method l.prog w K mg base CX0 1 CS "__len__" (dR s_Square_len "__len__" "Square.__len__" K) Square_len.ps (lift K (spSqLen CS CG)) := ⟨_, _, O_Square.cl, ⟨a_Square_len, i_Square_len, k_Square_len⟩, F_Square_len, bd_Square_len F_Square_len, ok_Square_len F_Square_len O_Square T⟩
  have C_Square_str : Method l.prog w K mg base CX0 1 CS "__str__" (dR s_Square_str "__str__" "Square.__str__" K) Square_str.ps (lift K (spSqStr CS CG)) := ⟨_, _, O_Square.cl, ⟨a_Square_str, i_Square_str, k_Square_str⟩, F_Square_str, bd_Square_str F_Square_str, ok_Square_str F_Square_str O_Square T⟩
  have C_Square_repr : Method l.prog w K mg base CX0 4 CS "__repr__" (dR s_Square_repr "__repr__" "Square.__repr__" K) Square_repr.ps (lift K (spSqRepr CS CG)) := ⟨_, _, O_Square.cl, ⟨a_Square_repr, i_Square_repr, k_Square_repr⟩, F_Square_repr, bd_Square_repr F_Square_repr, ok_Square_repr F_Square_repr O_Square T C_Square_str⟩
  have C_Square_wider : Method l.prog w K mg base (L2.CX l.prog w) 6 CS "wider" (dR s_Square_wider "wider" "Square.wider" K) Square_wider.ps (lift K (spWider K CS CG CQ)) := ⟨_, _, O_Square.cl, ⟨a_Square_wider, i_Square_wider, k_Square_wider⟩, F_Square_wider, bd_Square_wider F_Square_wider, ok_Square_wider F_Square_wider O_Square T GF C_hold_level C_Square⟩
  have X_NoReference : ExcOk l.prog w K mg base "NoReference" CF ["text", "at"] NoReference_init.ps := ⟨E_NoReference, ⟨ga_NoReference, gg_NoReference, eX_NoReference, hX_NoReference⟩, exm_own eX_NoReference iX_NoReference tX_NoReference sX_NoReference, fun f hf => by simp only [List.mem_cons, List.not_mem_nil, or_false] at hf; rcases hf with rfl | rfl <;> assumption, PySem.W.mg_of X G aX_NoReference, ⟨_, _, a_NoReference_init, t_NoReference_init, bd_NoReference_init F_NoReference_init, ok_NoReference_init F_NoReference_init E_NoReference n_NoReference_text n_NoReference_at B_GridError⟩⟩
  have C_number_begun : Callee l.prog w K mg base CX0 1 "number_begun" s_number_begun number_begun.ps (lift K spNumB) := ⟨_, _, PySem.W.mg_of X G a_number_begun, F_number_begun, bd_number_begun F_number_begun, ok_number_begun F_number_begun T⟩
  have C_signs_begun : Callee l.prog w K mg base CX0 3 "signs_begun" s_signs_begun signs_begun.ps (lift K (spSgB CG)) := ⟨_, _, PySem.W.mg_of X G a_signs_begun, F_signs_begun, bd_signs_begun F_signs_begun, ok_signs_begun F_signs_begun T GF⟩
  have C_square_by : Callee l.prog w K mg base (L2.CX l.prog w) 6 "square_by" s_square_by square_by.ps (lift K (spSqBy CS CG)) := ⟨_, _, PySem.W.mg_of X G a_square_by, F_square_by, bd_square_by F_square_by, ok_square_by F_square_by T GF C_Square⟩
  have C_read_square : Callee l.prog w K mg base (L2.CX l.prog w) 7 "read_square" s_read_square read_square.ps (lift K (spRead K CS CG CF)) := ⟨_, _, PySem.W.mg_of X G a_read_square, F_read_square, bd_read_square F_read_square, ok_read_square F_read_square T X_NoReference C_number_begun C_signs_begun C_square_by C_Square⟩
  have C_draw : Callee l.prog w K mg base CX0 1 "_law_draw" s_draw draw.ps (lift K spDraw) := ⟨_, _, PySem.W.mg_of X G a_draw, F_draw, bd_draw F_draw, ok_draw F_draw⟩
  have C_begin : Callee l.prog w K mg base CX0 1 "_law_begin" s_begin begin.ps (lift K spBegin) := ⟨_, _, PySem.W.mg_of X G a_begin, F_begin, bd_begin F_begin, ok_begin F_begin T⟩
  have C_grid : Callee l.prog w K mg base CX0 2 "_law_grid" s_grid grid.ps (lift K spLGrid) := ⟨_, _, PySem.W.mg_of X G a_grid, F_grid, bd_grid F_grid, ok_grid F_grid T C_draw⟩
  have C_side : Callee l.prog w K mg base CX0 1 "_law_side" s_side side.ps (lift K spLSide) := ⟨_, _, PySem.W.mg_of X G a_side, F_side, bd_side F_side, ok_side F_side T⟩
  have C_signs : Callee l.prog w K mg base CX0 1 "_law_signs" s_signs signs.ps (lift K spSigs) := ⟨_, _, PySem.W.mg_of X G a_signs, F_signs, bd_signs F_signs, ok_sigs F_signs T⟩
  have C_figures : Callee l.prog w K mg base CX0 2 "_law_figures" s_figures figures.ps (lift K spFig) := ⟨_, _, PySem.W.mg_of X G a_figures, F_figures, bd_figures F_figures, ok_figures F_figures T C_draw⟩
  have C_read : Callee l.prog w K mg base CX0 8 "_law_read" s_read read.ps (lift K (spLRead CS CG)) := ⟨_, _, PySem.W.mg_of X G a_read, F_read, bd_read F_read, ok_read F_read T C_draw C_read_square⟩
  have C_at : Callee l.prog w K mg base CX0 8 "_law_at" s_at at.ps (lift K (spLAt CG)) := ⟨_, _, PySem.W.mg_of X G a_at, F_at, bd_at F_at, ok_at F_at T X_NoReference C_read_square⟩
  have C_right : Callee l.prog w K mg base CX0 9 "_law_right" s_right right.ps (lift K (spRight14 CG)) := ⟨_, _, PySem.W.mg_of X G a_right, F_right, bd_right F_right, ok_right F_right T O_Square N_Square GF C_draw C_side C_figures C_signs C_read C_at C_read_square C_Square_eq C_Square_str C_Square_wider⟩
  exact ok_law F_law T GF C_draw C_begin C_grid C_right
end K14
open PySem PySem.W PyProof.Rows in
set_option maxRecDepth 100000 in
set_option maxHeartbeats 0 in
theorem PySem.Challenge.cw_gridplaces_k14_references_read_holds : PySem.Challenge.rw_gridplaces_k14_references_read.Holds := by
  w_on; o_law; k_head; (case hw => w_witness2)
  k_fill
  refine Lay.walk_law (l := PySem.Challenge.rw_gridplaces_k14_references_read) (n := 63) (k := 10) (x := "_law_script") (sp := fun K => Lay.lift K K14.spLaw) rfl (by decide) rfl ⟨rfl, by decide, by decide⟩ (fun w h Y => PySem.W.kIn_of Y) ?F ?S
  case F =>
    intro w mg fa h KX G hmg
    refine' K14.all_mk KX G hmg ?g_LETTER_SIGNS ?g_FIGURE_SIGNS ?g_MOST_LEVELS ?aC_Grid ?pg_Grid ?hd_Grid ?po_Grid ?sa_Grid ?n_Grid_text ?n_Grid_alphabets ?ha_Grid ?hn_Grid ?ht_Grid ?hm_Grid ?ne_Grid ?rf_Grid_str ?rf_Grid_int ?rf_Grid_bool ?rf_Grid_NoneType ?rf_Grid_tuple ?rf_Grid_list ?fo_Grid ?ic_Grid ?ty_Grid ?aC_Square ?pg_Square ?hd_Square ?po_Square ?sa_Square ?n_Square_grid ?n_Square_level ?n_Square_east ?n_Square_north ?n_Square_signs ?n_Square_sheet ?ha_Square ?hn_Square ?ht_Square ?hm_Square ?ne_Square ?rf_Square_str ?rf_Square_int ?rf_Square_bool ?rf_Square_NoneType ?rf_Square_tuple ?rf_Square_list ?ic_Square ?ty_Square ?nb_Square ?aX_BadGrid ?xL_BadGrid ?vX_BadGrid ?sx_BadGrid ?ga_BadGrid ?gg_BadGrid ?n_BadGrid_at ?kX_BadGrid ?eX_BadGrid ?tX_BadGrid ?hX_BadGrid ?iX_BadGrid ?sX_BadGrid ?aX_BadSquare ?xL_BadSquare ?vX_BadSquare ?sx_BadSquare ?ga_BadSquare ?gg_BadSquare ?n_BadSquare_level ?kX_BadSquare ?eX_BadSquare ?tX_BadSquare ?hX_BadSquare ?iX_BadSquare ?sX_BadSquare ?aG_GridError ?sg_GridError ?rd_GridError ?vV_GridError ?a_BadGrid_init ?t_BadGrid_init ?lu_BadGrid_init ?c_BadGrid_init ?k_BadGrid_init ?a_BadSquare_init ?t_BadSquare_init ?lu_BadSquare_init ?c_BadSquare_init ?k_BadSquare_init ?a_signs_by ?lu_signs_by ?c_signs_by ?k_signs_by ?a_Grid_init ?i_Grid_init ?mk_Grid ?kc_Grid ?lu_Grid_init ?c_Grid_init ?k_Grid_init ?a_Grid_eq ?i_Grid_eq ?lu_Grid_eq ?c_Grid_eq ?k_Grid_eq ?a_Grid_len ?i_Grid_len ?lu_Grid_len ?c_Grid_len ?k_Grid_len ?a_Grid_str ?i_Grid_str ?lu_Grid_str ?c_Grid_str ?k_Grid_str ?a_Grid_repr ?i_Grid_repr ?lu_Grid_repr ?c_Grid_repr ?k_Grid_repr ?a_Grid_alphabet ?i_Grid_alphabet ?lu_Grid_alphabet ?c_Grid_alphabet ?k_Grid_alphabet ?a_Grid_cut ?i_Grid_cut ?lu_Grid_cut ?c_Grid_cut ?k_Grid_cut ?a_Grid_side ?i_Grid_side ?lu_Grid_side ?c_Grid_side ?k_Grid_side ?a_hold_level ?lu_hold_level ?c_hold_level ?k_hold_level ?a_Square_init ?i_Square_init ?mk_Square ?kc_Square ?lu_Square_init ?c_Square_init ?k_Square_init ?a_Square_eq ?i_Square_eq ?lu_Square_eq ?c_Square_eq ?k_Square_eq ?a_Square_len ?i_Square_len ?lu_Square_len ?c_Square_len ?k_Square_len ?a_Square_str ?i_Square_str ?lu_Square_str ?c_Square_str ?k_Square_str ?a_Square_repr ?i_Square_repr ?lu_Square_repr ?c_Square_repr ?k_Square_repr ?a_Square_wider ?i_Square_wider ?lu_Square_wider ?c_Square_wider ?k_Square_wider ?aX_NoReference ?xL_NoReference ?vX_NoReference ?sx_NoReference ?ga_NoReference ?gg_NoReference ?n_NoReference_text ?n_NoReference_at ?kX_NoReference ?eX_NoReference ?tX_NoReference ?hX_NoReference ?iX_NoReference ?sX_NoReference ?a_NoReference_init ?t_NoReference_init ?lu_NoReference_init ?c_NoReference_init ?k_NoReference_init ?a_number_begun ?lu_number_begun ?c_number_begun ?k_number_begun ?a_signs_begun ?lu_signs_begun ?c_signs_begun ?k_signs_begun ?a_square_by ?lu_square_by ?c_square_by ?k_square_by ?a_read_square ?lu_read_square ?c_read_square ?k_read_square ?a_draw ?lu_draw ?c_draw ?k_draw ?a_begin ?lu_begin ?c_begin ?k_begin ?a_grid ?lu_grid ?c_grid ?k_grid ?a_side ?lu_side ?c_side ?k_side ?g_MOST_FIGURES ?a_signs ?lu_signs ?c_signs ?k_signs ?a_figures ?lu_figures ?c_figures ?k_figures ?a_read ?lu_read ?c_read ?k_read ?a_at ?lu_at ?c_at ?k_at ?a_right ?lu_right ?c_right ?k_right ?a_law ?lu_law ?c_law ?k_law ?z_len ?z_abs ?z_range ?z_int ?z_str ?z_repr ?z_isinstance ?z_tuple ?z_enumerate ?z_min ?z_any ?z_all ?z_max ?z_bool ?z_zip ?z_reversed ?z_list ?z_sum ?z_sorted ?z_set ?z_dict
    (case g_LETTER_SIGNS => k_is)
    (case g_FIGURE_SIGNS => k_is)
    (case g_MOST_LEVELS => k_is)
    (case aC_Grid => k_is)
    (case pg_Grid => k_is)
    (case hd_Grid => k_is)
    (case po_Grid => k_is)
    (case sa_Grid => k_is)
    (case n_Grid_text => k_is)
    (case n_Grid_alphabets => k_is)
    (case ha_Grid => k_is)
    (case hn_Grid => k_is)
    (case ht_Grid => k_is)
    (case hm_Grid => k_is)
    (case ne_Grid => k_is)
    (case rf_Grid_str => k_is)
    (case rf_Grid_int => k_is)
    (case rf_Grid_bool => k_is)
    (case rf_Grid_NoneType => k_is)
    (case rf_Grid_tuple => k_is)
    (case rf_Grid_list => k_is)
    (case fo_Grid => k_is)
    (case ic_Grid => k_is)
    (case ty_Grid => k_is)
    (case aC_Square => k_is)
    (case pg_Square => k_is)
    (case hd_Square => k_is)
    (case po_Square => k_is)
    (case sa_Square => k_is)
    (case n_Square_grid => k_is)
    (case n_Square_level => k_is)
    (case n_Square_east => k_is)
    (case n_Square_north => k_is)
    (case n_Square_signs => k_is)
    (case n_Square_sheet => k_is)
    (case ha_Square => k_is)
    (case hn_Square => k_is)
    (case ht_Square => k_is)
    (case hm_Square => k_is)
    (case ne_Square => k_is)
    (case rf_Square_str => k_is)
    (case rf_Square_int => k_is)
    (case rf_Square_bool => k_is)
    (case rf_Square_NoneType => k_is)
    (case rf_Square_tuple => k_is)
    (case rf_Square_list => k_is)
    (case ic_Square => k_is)
    (case ty_Square => k_is)
    (case nb_Square => k_is)
    (case aX_BadGrid => k_is)
    (case xL_BadGrid => k_is)
    (case vX_BadGrid => rfl)
    (case sx_BadGrid => k_is)
    (case ga_BadGrid => k_is)
    (case gg_BadGrid => k_is)
    (case n_BadGrid_at => k_is)
    (case kX_BadGrid => k_is)
    (case eX_BadGrid => k_is)
    (case tX_BadGrid => k_is)
    (case hX_BadGrid => k_is)
    (case iX_BadGrid => k_is)
    (case sX_BadGrid => first | rfl | k_is)
    (case aX_BadSquare => k_is)
    (case xL_BadSquare => k_is)
    (case vX_BadSquare => rfl)
    (case sx_BadSquare => k_is)
    (case ga_BadSquare => k_is)
    (case gg_BadSquare => k_is)
    (case n_BadSquare_level => k_is)
    (case kX_BadSquare => k_is)
    (case eX_BadSquare => k_is)
    (case tX_BadSquare => k_is)
    (case hX_BadSquare => k_is)
    (case iX_BadSquare => k_is)
    (case sX_BadSquare => first | rfl | k_is)
    (case aG_GridError => k_is)
    (case sg_GridError => k_is)
    (case rd_GridError => k_is)
    (case vV_GridError => k_is)
    (case a_BadGrid_init => k_is)
    (case t_BadGrid_init => k_is)
    (case lu_BadGrid_init => k_is)
    (case c_BadGrid_init => k_is)
    (case k_BadGrid_init => k_is)
    (case a_BadSquare_init => k_is)
    (case t_BadSquare_init => k_is)
    (case lu_BadSquare_init => k_is)
    (case c_BadSquare_init => k_is)
    (case k_BadSquare_init => k_is)
    (case a_signs_by => k_is)
    (case lu_signs_by => k_is)
    (case c_signs_by => k_is)
    (case k_signs_by => k_is)
    (case a_Grid_init => k_is)
    (case i_Grid_init => k_is)
    (case mk_Grid => k_is)
    (case kc_Grid => k_is)
    (case lu_Grid_init => k_is)
    (case c_Grid_init => k_is)
    (case k_Grid_init => k_is)
    (case a_Grid_eq => k_is)
    (case i_Grid_eq => k_is)
    (case lu_Grid_eq => k_is)
    (case c_Grid_eq => k_is)
    (case k_Grid_eq => k_is)
    (case a_Grid_len => k_is)
    (case i_Grid_len => k_is)
    (case lu_Grid_len => k_is)
    (case c_Grid_len => k_is)
    (case k_Grid_len => k_is)
    (case a_Grid_str => k_is)
    (case i_Grid_str => k_is)
    (case lu_Grid_str => k_is)
    (case c_Grid_str => k_is)
    (case k_Grid_str => k_is)
    (case a_Grid_repr => k_is)
    (case i_Grid_repr => k_is)
    (case lu_Grid_repr => k_is)
    (case c_Grid_repr => k_is)
    (case k_Grid_repr => k_is)
    (case a_Grid_alphabet => k_is)
    (case i_Grid_alphabet => k_is)
    (case lu_Grid_alphabet => k_is)
    (case c_Grid_alphabet => k_is)
    (case k_Grid_alphabet => k_is)
    (case a_Grid_cut => k_is)
    (case i_Grid_cut => k_is)
    (case lu_Grid_cut => k_is)
    (case c_Grid_cut => k_is)
    (case k_Grid_cut => k_is)
    (case a_Grid_side => k_is)
    (case i_Grid_side => k_is)
    (case lu_Grid_side => k_is)
    (case c_Grid_side => k_is)
    (case k_Grid_side => k_is)
    (case a_hold_level => k_is)
    (case lu_hold_level => k_is)
    (case c_hold_level => k_is)
    (case k_hold_level => k_is)
    (case a_Square_init => k_is)
    (case i_Square_init => k_is)
    (case mk_Square => k_is)
    (case kc_Square => k_is)
    (case lu_Square_init => k_is)
    (case c_Square_init => k_is)
    (case k_Square_init => k_is)
    (case a_Square_eq => k_is)
    (case i_Square_eq => k_is)
    (case lu_Square_eq => k_is)
    (case c_Square_eq => k_is)
    (case k_Square_eq => k_is)
    (case a_Square_len => k_is)
    (case i_Square_len => k_is)
    (case lu_Square_len => k_is)
    (case c_Square_len => k_is)
    (case k_Square_len => k_is)
    (case a_Square_str => k_is)
    (case i_Square_str => k_is)
    (case lu_Square_str => k_is)
    (case c_Square_str => k_is)
    (case k_Square_str => k_is)
    (case a_Square_repr => k_is)
    (case i_Square_repr => k_is)
    (case lu_Square_repr => k_is)
    (case c_Square_repr => k_is)
    (case k_Square_repr => k_is)
    (case a_Square_wider => k_is)
    (case i_Square_wider => k_is)
    (case lu_Square_wider => k_is)
    (case c_Square_wider => k_is)
    (case k_Square_wider => k_is)
    (case aX_NoReference => k_is)
    (case xL_NoReference => k_is)
    (case vX_NoReference => rfl)
    (case sx_NoReference => k_is)
    (case ga_NoReference => k_is)
    (case gg_NoReference => k_is)
    (case n_NoReference_text => k_is)
    (case n_NoReference_at => k_is)
    (case kX_NoReference => k_is)
    (case eX_NoReference => k_is)
    (case tX_NoReference => k_is)
    (case hX_NoReference => k_is)
    (case iX_NoReference => k_is)
    (case sX_NoReference => first | rfl | k_is)
    (case a_NoReference_init => k_is)
    (case t_NoReference_init => k_is)
    (case lu_NoReference_init => k_is)
    (case c_NoReference_init => k_is)
    (case k_NoReference_init => k_is)
    (case a_number_begun => k_is)
    (case lu_number_begun => k_is)
    (case c_number_begun => k_is)
    (case k_number_begun => k_is)
    (case a_signs_begun => k_is)
    (case lu_signs_begun => k_is)
    (case c_signs_begun => k_is)
    (case k_signs_begun => k_is)
    (case a_square_by => k_is)
    (case lu_square_by => k_is)
    (case c_square_by => k_is)
    (case k_square_by => k_is)
    (case a_read_square => k_is)
    (case lu_read_square => k_is)
    (case c_read_square => k_is)
    (case k_read_square => k_is)
    (case a_draw => k_is)
    (case lu_draw => k_is)
    (case c_draw => k_is)
    (case k_draw => k_is)
    (case a_begin => k_is)
    (case lu_begin => k_is)
    (case c_begin => k_is)
    (case k_begin => k_is)
    (case a_grid => k_is)
    (case lu_grid => k_is)
    (case c_grid => k_is)
    (case k_grid => k_is)
    (case a_side => k_is)
    (case lu_side => k_is)
    (case c_side => k_is)
    (case k_side => k_is)
    (case g_MOST_FIGURES => k_is)
    (case a_signs => k_is)
    (case lu_signs => k_is)
    (case c_signs => k_is)
    (case k_signs => k_is)
    (case a_figures => k_is)
    (case lu_figures => k_is)
    (case c_figures => k_is)
    (case k_figures => k_is)
    (case a_read => k_is)
    (case lu_read => k_is)
    (case c_read => k_is)
    (case k_read => k_is)
    (case a_at => k_is)
    (case lu_at => k_is)
    (case c_at => k_is)
    (case k_at => k_is)
    (case a_right => k_is)
    (case lu_right => k_is)
    (case c_right => k_is)
    (case k_right => k_is)
    (case a_law => k_is)
    (case lu_law => k_is)
    (case c_law => k_is)
    (case k_law => k_is)
    (case z_len => k_is)
    (case z_abs => k_is)
    (case z_range => k_is)
    (case z_int => k_is)
    (case z_str => k_is)
    (case z_repr => k_is)
    (case z_isinstance => k_is)
    (case z_tuple => k_is)
    (case z_enumerate => k_is)
    (case z_min => k_is)
    (case z_any => k_is)
    (case z_all => k_is)
    (case z_max => k_is)
    (case z_bool => k_is)
    (case z_zip => k_is)
    (case z_reversed => k_is)
    (case z_list => k_is)
    (case z_sum => k_is)
    (case z_sorted => k_is)
    (case z_set => k_is)
    (case z_dict => k_is)
  case S =>
    intro K H a ns hl _ hS
    exact K14.law_asks hl hS
#print axioms PySem.Challenge.cw_gridplaces_k14_references_read_holds
