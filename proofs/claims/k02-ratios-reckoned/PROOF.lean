import PyProof.Rows.All
import Wide.All
import OpenK.AllK
import Wide.FinOn
import HandS.ForMost
import HandS.Wide
import HandS.Zip
import HandS.TupAny
import HandS.RaiseMore
import HandS.Walk
import HandS.Flow
import HandS.Style
import HandS.ExcInit
import HandS.ExcField
import HandS.ExcOwn
import HandS.WordsExc
import HandS.IsInst
import HandS.Exc
import HandS.Defaults
import PyProof.StrBlock2
import PyProof.CallFns
import PyProof.CallStr
import PySem.Challenge.RW_gridplaces_k02_ratios_reckoned
set_option Elab.async false
set_option linter.all false
set_option maxRecDepth 100000
set_option maxHeartbeats 2000000
namespace Lay
open PySem PySem.Spec PyProof.Rows L2

/-! ### defs that may show data: no repr is under way around them -/
theorem guards_deep {A : Around} {env : Env} (h : A.guards = some []) : (A.deeper env).guards = some [] := h
theorem guards_make {A : Around} {C : Addr} {us : List Value} {kw : List (Str × Value)} (h : A.guards = some []) :
    (A.under (.builtin "type.__call__" ⟨.ref C :: us, kw⟩)).guards = some [] := by
  first | exact h | (simp [Around.under, Code.guards, Code.isGuard, guardIds, h])

/-- as the layer's FnOk, but only where no repr is under way -/
structure FnG (P : Program) (w : World) (K : PySem.W.Frag) (mg : Str → Option Value) (base : Heap)
    (CX : CXT) (k : Nat) (f : Addr) (fd : FuncData) (ps : List Str) (sp : Sp) : Prop where
  ln : ∀ vs H Q E, sp vs H Q E → vs.length = ps.length
  go : ∀ (A : Around) (outer : List Env) (s : Shared) (H : Hp) (args : Args) (us : List Value)
    (vs : List V) (Q : VK) (E : XK), Room k A → A.guards = some [] → Env0 P w K mg base A outer s H →
    BindsTo s fd args (ps.zip us) → Vals vs us → sp vs H Q E →
    codeAny (model P w) A (.call (.ref f) args) (CR CX outer P w H s Q E) s

section
variable {P : Program} {w : World} {K : PySem.W.Frag} {mg : Str → Option Value} {base : Heap} {CX : CXT} {k : Nat}
  {f : Addr} {fd : FuncData} {ps : List Str} {sp : Sp}
theorem FnG.of (F : FnOk P w K mg base CX k f fd ps sp) : FnG P w K mg base CX k f fd ps sp :=
  ⟨F.len, fun A outer s H args us vs Q E hr _ he hb hv hs => F.run A outer s H args us vs Q E hr he hb hv hs⟩
theorem FnG.up {j : Nat} (F : FnG P w K mg base CX j f fd ps sp) (h : j ≤ k) : FnG P w K mg base CX k f fd ps sp :=
  ⟨F.ln, fun A outer s H args us vs Q E hr => F.go A outer s H args us vs Q E (hr.mono h)⟩

/-- a def by its body -/
theorem fg_of {name qual : Str} {params : Arguments} {body : List Stmt} {scope : Scope} {dV kV doc pm cdv ct oc : Value}
    {an od : Option Addr} {osl : Array (Option Value)} {N : List Str}
    (lk : K.lookup f = some ⟨oc, od, .func (PySem.W.fnOf name qual params body scope dV kV doc pm an cdv ct), osl⟩)
    (hcd : PySem.W.codeIn K cdv qual = true) (S : FnScope N ps scope)
    (ln : ∀ vs H Q E, sp vs H Q E → vs.length = ps.length)
    (hb : ∀ (A : Around) (outer : List Env) (s : Shared) (H : Hp) (vs : List V) (Q : VK) (E : XK),
      Room k (A.deeper (envOfC qual scope s.heap.objs.size f cdv)) →
      (A.deeper (envOfC qual scope s.heap.objs.size f cdv)).guards = some [] → sp vs H Q E →
      ∃ t, PSs (cxOf CX P w K mg base N qual scope f cdv A outer s H E) body t ∧
        t { nx := fun _ H' => Q .non H', rt := Q } (start N vs) H) :
    FnG P w K mg base CX (k + 1) f (PySem.W.fnOf name qual params body scope dV kV doc pm an cdv ct) ps sp := by
  refine ⟨ln, ?_⟩
  intro A outer s H args us vs Q E hr hg e0 hbd r hsp
  have hlen := ln _ _ _ _ hsp
  have inS : K.In s.heap := e0.mod.kin.keeps fun b o q => (e0.bs b o q).1
  have noL : s.heap.NoLimit := e0.mod.nolimit.keeps fun b o q => (e0.bs b o q).1
  have kinds : ∀ y ∈ ps.zip us, scope.names.lookup y.1 = some .local ∨
      (scope.names.lookup y.1 = some .cell ∧ ((cellsFrom (s.heap.objs.size + 1) scope.names []).lookup y.1).isSome = true) := by
    rintro ⟨n, v⟩ hy
    cases S.par n (List.of_mem_zip hy).1 with
    | inl q => exact .inl q
    | inr q => exact .inr ⟨q, PySem.W.cellsFrom_some _ _ _ (.inl q)⟩
  refine codeAny_call_function hr.depth (inS _ _ lk) rfl S.co S.gen rfl (PySem.W.codeRec_of inS hcd) (hbd _ _ _ _ ?_)
  refine wpAny_newFunctionEnv_cells S.kind kinds ?_
  intro env he s1 x
  subst he
  refine ⟨noL.keeps x.toInCall.keep, codeAny_func ?_⟩
  obtain ⟨t, ht, hq⟩ := hb A outer s H vs Q E (hr.deeper _) (guards_deep hg) hsp
  have I0 := inv_start (CX := CX) (E := E) S hr.hd e0 hlen r x
  refine wpAny_mono (ht.run [] s1 (start N vs) H _ I0 hq) ?_ (fun _ _ z => z)
  intro fl s' hs
  cases fl with
  | ret u => obtain ⟨v, σ', H', J, rv, q⟩ := hs; exact ⟨v, H', J.os, J.bare, J.base, J.hok, rv, q⟩
  | next => obtain ⟨σ', H', J, q⟩ := hs; exact ⟨V.non, H', J.os, J.bare, J.base, J.hok, rfl, q⟩
  | brk => obtain ⟨_, _, _, q⟩ := hs; exact q.elim
  | cont => obtain ⟨_, _, _, q⟩ := hs; exact q.elim

/-- a def that lets no exception out -/
theorem gbody {x qual : Str} {st : Stmt} {N : List Str} (F : Fun K x qual st f fd) (S : FnScope N ps (defScope st))
    (ln : ∀ vs H Q E, sp vs H Q E → vs.length = ps.length)
    (hb : ∀ (cdv : Value) (A : Around) (outer : List Env) (s : Shared) (H : Hp) (vs : List V) (Q : VK) (E : XK),
      Room k (A.deeper (envOfC qual (defScope st) s.heap.objs.size f cdv)) →
      (A.deeper (envOfC qual (defScope st) s.heap.objs.size f cdv)).guards = some [] → sp vs H Q E →
      ∃ t, PSs (cxOf CX0 P w K mg base N qual (defScope st) f cdv A outer s H E).nox (defBody st) t ∧
        t { nx := fun _ H' => Q .non H', rt := Q } (start N vs) H) : FnG P w K mg base CX0 (k + 1) f fd ps sp := by
  obtain ⟨oc, od, kV, doc, pm, an, cdv, ct, osl, rfl, lk, hcd⟩ := F.ex
  refine fg_of lk hcd S ln ?_
  intro A outer s H vs Q E hr hg hsp
  obtain ⟨t, h, q⟩ := hb cdv A outer s H vs Q E hr hg hsp
  exact ⟨t, PSs.nox h, q⟩
/-- a def that may raise -/
theorem gbodyX {x qual : Str} {st : Stmt} {N : List Str} {CY : CXT} (F : Fun K x qual st f fd) (S : FnScope N ps (defScope st))
    (ln : ∀ vs H Q E, sp vs H Q E → vs.length = ps.length)
    (hb : ∀ (cdv : Value) (A : Around) (outer : List Env) (s : Shared) (H : Hp) (vs : List V) (Q : VK) (E : XK),
      Room k (A.deeper (envOfC qual (defScope st) s.heap.objs.size f cdv)) →
      (A.deeper (envOfC qual (defScope st) s.heap.objs.size f cdv)).guards = some [] → sp vs H Q E →
      ∃ t, PSs (cxOf CY P w K mg base N qual (defScope st) f cdv A outer s H E) (defBody st) t ∧
        t { nx := fun _ H' => Q .non H', rt := Q } (start N vs) H) : FnG P w K mg base CY (k + 1) f fd ps sp := by
  obtain ⟨oc, od, kV, doc, pm, an, cdv, ct, osl, rfl, lk, hcd⟩ := F.ex
  exact fg_of lk hcd S ln fun A outer s H vs Q E hr hg hsp => hb cdv A outer s H vs Q E hr hg hsp
end

section
variable {X : Cx} {CX : CXT} {k : Nat} {f : Addr} {fd : FuncData} {ps ks : List Str} {sp : Sp} {dvs : List V} {ds : List Value}
  {E : XK} {x m : Str} {p pos apos : Pos} {e o : Expr} {es : List Expr} {kws : List Keyword} {ta : TE} {t tk : TA} {C : Addr}
/-- a callee's end, seen from the caller -/
theorem back {pins : List (Addr × Obj)} {σ : L2.St} {H : Hp} {s : Shared} {Q : VK} (hx : Passes CX X E) (I : Inv X pins σ H s)
    {r : Result} {s' : Shared} (hq : CR CX X.stack X.prog X.w H s Q E r s') :
    (match r with | .ok (.ret u) => EP X pins σ Q u s' | .ok _ => False | .error e => X.xe e s') := by
  cases r with
  | error e => exact hx pins σ H s e s' I hq
  | ok fl =>
    cases fl with
    | ret u => exact I.after hq
    | next => exact hq
    | brk => exact hq
    | cont => exact hq
theorem gcall {pins : List (Addr × Obj)} {σ : L2.St} {H : Hp} {s : Shared} {Q : VK} {args : Args} {us : List Value} {vs : List V}
    (F : FnG X.prog X.w X.K X.mg X.base CX k f fd ps sp) (hr : Room k X.A) (hg : X.A.guards = some [])
    (hb : BindsTo s fd args (ps.zip us)) (hx : Passes CX X E) (I : Inv X pins σ H s) (r : Vals vs us) (h : sp vs H Q E) :
    wpAny (model X.prog X.w) X.A (call (.ref f) args.pos args.kw) (EP X pins σ Q) X.xe s := by
  obtain ⟨ap, ak⟩ := args
  refine wpAny_call (codeAny_mono (F.go X.A X.stack s H ⟨ap, ak⟩ us vs Q E hr hg I.env0 hb r h) ?_)
  intro r s' hq
  have z := back hx I hq
  cases r with
  | error e => exact z
  | ok fl =>
    cases fl with
    | ret u => exact z
    | next => exact z.elim
    | brk => exact z.elim
    | cont => exact z.elim
theorem gcallP {pins : List (Addr × Obj)} {σ : L2.St} {H : Hp} {s : Shared} {Q : VK} {us : List Value} {vs : List V}
    (F : FnG X.prog X.w X.K X.mg X.base CX k f fd ps sp) (hr : Room k X.A) (hg : X.A.guards = some [])
    (hb : Binds X.K fd ps ds) (hd : Vals dvs ds) (hx : Passes CX X E) (I : Inv X pins σ H s) (r : Vals vs us)
    (h : sp (vs ++ dvs) H Q E) : wpAny (model X.prog X.w) X.A (call (.ref f) us) (EP X pins σ Q) X.xe s := by
  have r2 : Vals (vs ++ dvs) (us ++ ds) := r.append hd
  have hl : (us ++ ds).length = ps.length := by rw [← r2.length]; exact F.ln _ _ _ _ h
  exact gcall (args := ⟨us, []⟩) F hr hg (hb s us I.kIn hl) hx I r2 h

/-- f(e, ..) -/
theorem ge_call (F : FnG X.prog X.w X.K X.mg X.base CX k f fd ps sp) (hr : Room k X.A) (hg : X.A.guards = some []) (hG : Gl X x)
    (hm : X.mg x = some (.ref f)) (hk : PySem.W.keepIn X.K (.ref f) = true) (hb : Binds X.K fd ps ds) (hd : Vals dvs ds)
    (hx : Passes CX X E) (ha : PA X (e :: es) t) (hdb : (x == ("__debug__" : Str)) = false := by decide)
    (he : starEach (e :: es) X.env = (false, eval e X.env) :: starEach es X.env := by rfl)
    (hpl : (backTo pos (starEach es X.env)).any (·.1) = false := by rfl) :
    PE X (.Call (.Name x p) (e :: es) [] pos) (tCall sp dvs E t) := by
  constructor
  intro pins s σ H Q I h
  refine wpAny_Call_Name_kw (ld_glob I hG hm ?_ hdb)
  refine PySem.W.callWith_K (h₀ := X.base) I.ok.mod.kin hk (thn (ha.run pos pins s σ H _ I h) ?_) he hpl
  rintro us s1 ⟨vs, H1, I1, r, q⟩
  exact ⟨I1.kIn, gcallP F hr hg hb hd hx I1 r q⟩
theorem ge_call0 (F : FnG X.prog X.w X.K X.mg X.base CX k f fd ps sp) (hr : Room k X.A) (hg : X.A.guards = some []) (hG : Gl X x)
    (hm : X.mg x = some (.ref f)) (hk : PySem.W.keepIn X.K (.ref f) = true) (hb : Binds X.K fd ps ds) (hd : Vals dvs ds)
    (hx : Passes CX X E) (hdb : (x == ("__debug__" : Str)) = false := by decide) :
    PE X (.Call (.Name x p) [] [] pos) (tCall sp dvs E tNil) := by
  constructor
  intro pins s σ H Q I h
  exact wpAny_Call_Name_kw (ld_glob I hG hm (PySem.W.callWith_K0 I.kIn hk (gcallP (us := []) F hr hg hb hd hx I .nil h)) hdb)

variable {g : List Value → List Value → List Value} {gV : List V → List V → List V}
/-- f(e, .., k = v, ..) -/
theorem ge_callK (F : FnG X.prog X.w X.K X.mg X.base CX k f fd ps sp) (hr : Room k X.A) (hg : X.A.guards = some []) (hG : Gl X x)
    (hm : X.mg x = some (.ref f)) (hk : PySem.W.keepIn X.K (.ref f) = true) (hb : KBinds X.K fd ps ks g gV) (hx : Passes CX X E)
    (ha : PA X (e :: es) t) (hkw : PK X kws tk) (hall : (backToKw pos (keywordEach kws X.env)).all (·.1.isSome) = true := by rfl)
    (hks : (backToKw pos (keywordEach kws X.env)).filterMap (·.1) = ks := by rfl)
    (hdb : (x == ("__debug__" : Str)) = false := by decide)
    (he : starEach (e :: es) X.env = (false, eval e X.env) :: starEach es X.env := by rfl)
    (hpl : ((backTo pos (starEach (e :: es) X.env)).any (·.1) || (backToKw pos (keywordEach kws X.env)).any (·.1.isNone)) = false := by rfl) :
    PE X (.Call (.Name x p) (e :: es) kws pos) (tCallK sp gV E t tk) := by
  constructor
  intro pins s σ H Q I h
  refine wpAny_Call_Name_kw (ld_glob I hG hm ?_ hdb)
  refine PySem.W.callWith_KW (h₀ := X.base) I.ok.mod.kin hk hall (thn (ha.run pos pins s σ H _ I h) ?_) hpl he
  rintro us s1 ⟨vs, H1, I1, r, q⟩
  refine thn (hkw.run pos pins s1 σ H1 _ I1 q) ?_
  rintro ws s2 ⟨zs, H2, I2, rz, q2⟩
  refine ⟨I2.kIn, ?_⟩
  rw [hks]
  have r2 := hb.rel r rz
  have hl : (g us ws).length = ps.length := by rw [← r2.length]; exact F.ln _ _ _ _ q2
  exact gcall (args := ⟨us, ks.zip ws⟩) F hr hg (hb.to s2 us ws I2.kIn hl) hx I2 r2 q2
end

/-- keywords: n values by place, the named ones in the order ks; srcs says which of them (or which default) each parameter takes -/
structure KwB (K : PySem.W.Frag) (fd : FuncData) (ps : List Str) (n : Nat) (ks : List Str)
    (g : List Value → List Value → List Value) (gV : List V → List V → List V) : Prop where
  to : ∀ (s : Shared) (us ws : List Value), K.In s.heap → us.length = n → ws.length = ks.length → BindsTo s fd ⟨us, ks.zip ws⟩ (ps.zip (g us ws))
  rel : ∀ (vs zs : List V) (us ws : List Value), vs.length = n → zs.length = ks.length → Vals vs us → Vals zs ws → Vals (gV vs zs) (g us ws)
def tKw (n m : Nat) (sp : Sp) (gV : List V → List V → List V) (E : XK) (t tk : TA) : TE := fun σ H Q =>
  t σ H fun vs H1 => tk σ H1 fun zs H2 => vs.length = n ∧ zs.length = m ∧ sp (gV vs zs) H2 Q E
section
variable {X : Cx} {CX : CXT} {k n : Nat} {f : Addr} {fd : FuncData} {ps ks : List Str} {sp : Sp}
  {E : XK} {x : Str} {p pos : Pos} {e : Expr} {es : List Expr} {kws : List Keyword} {t tk : TA}
  {g : List Value → List Value → List Value} {gV : List V → List V → List V}
theorem ge_kw (F : FnG X.prog X.w X.K X.mg X.base CX k f fd ps sp) (hr : Room k X.A) (hg : X.A.guards = some []) (hG : Gl X x)
    (hm : X.mg x = some (.ref f)) (hk : PySem.W.keepIn X.K (.ref f) = true) (hb : KwB X.K fd ps n ks g gV) (hx : Passes CX X E)
    (ha : PA X (e :: es) t) (hkw : PK X kws tk) (hall : (backToKw pos (keywordEach kws X.env)).all (·.1.isSome) = true := by rfl)
    (hks : (backToKw pos (keywordEach kws X.env)).filterMap (·.1) = ks := by rfl)
    (hdb : (x == ("__debug__" : Str)) = false := by decide)
    (he : starEach (e :: es) X.env = (false, eval e X.env) :: starEach es X.env := by rfl)
    (hpl : ((backTo pos (starEach (e :: es) X.env)).any (·.1) || (backToKw pos (keywordEach kws X.env)).any (·.1.isNone)) = false := by rfl) :
    PE X (.Call (.Name x p) (e :: es) kws pos) (tKw n ks.length sp gV E t tk) := by
  constructor
  intro pins s σ H Q I h
  refine wpAny_Call_Name_kw (ld_glob I hG hm ?_ hdb)
  refine PySem.W.callWith_KW (h₀ := X.base) I.ok.mod.kin hk hall (thn (ha.run pos pins s σ H _ I h) ?_) hpl he
  rintro us s1 ⟨vs, H1, I1, r, q⟩
  refine thn (hkw.run pos pins s1 σ H1 _ I1 q) ?_
  rintro ws s2 ⟨zs, H2, I2, rz, l1, l2, q2⟩
  refine ⟨I2.kIn, ?_⟩
  rw [hks]
  exact gcall (args := ⟨us, ks.zip ws⟩) F hr hg (hb.to s2 us ws I2.kIn (by rw [← r.length]; exact l1) (by rw [← rz.length]; exact l2)) hx I2 (hb.rel vs zs us ws l1 l2 r rz) q2
theorem ge_kw0 (F : FnG X.prog X.w X.K X.mg X.base CX k f fd ps sp) (hr : Room k X.A) (hg : X.A.guards = some []) (hG : Gl X x)
    (hm : X.mg x = some (.ref f)) (hk : PySem.W.keepIn X.K (.ref f) = true) (hb : KwB X.K fd ps 0 ks g gV) (hx : Passes CX X E)
    (hkw : PK X kws tk) (hall : (backToKw pos (keywordEach kws X.env)).all (·.1.isSome) = true := by rfl)
    (hks : (backToKw pos (keywordEach kws X.env)).filterMap (·.1) = ks := by rfl)
    (hdb : (x == ("__debug__" : Str)) = false := by decide)
    (hpl : ((backTo pos (starEach [] X.env)).any (·.1) || (backToKw pos (keywordEach kws X.env)).any (·.1.isNone)) = false := by rfl) :
    PE X (.Call (.Name x p) [] kws pos) (tKw 0 ks.length sp gV E tNil tk) := by
  constructor
  intro pins s σ H Q I h
  refine wpAny_Call_Name_kw (ld_glob I hG hm ?_ hdb)
  refine PySem.W.callWith_KW0 (h₀ := X.base) I.ok.mod.kin hk hall ?_ hpl
  refine thn (hkw.run pos pins s σ H _ I h) ?_
  rintro ws s2 ⟨zs, H2, I2, rz, l1, l2, q2⟩
  refine ⟨I2.kIn, ?_⟩
  rw [hks]
  exact gcall (args := ⟨[], ks.zip ws⟩) F hr hg (hb.to s2 [] ws I2.kIn rfl (by rw [← rz.length]; exact l2)) hx I2 (hb.rel [] zs [] ws l1 l2 .nil rz) q2
end

/-! ### a def of the top as its callers see it -/
structure Callee (P : Program) (w : World) (K : PySem.W.Frag) (mg : Str → Option Value) (base : Heap)
    (CX : CXT) (k : Nat) (x : Str) (st : Stmt) (ps : List Str) (sp : Sp) : Prop where
  ex : ∃ (f : Addr) (fd : FuncData), mg x = some (.ref f) ∧ Fun K x x st f fd ∧ Binds K fd ps [] ∧ FnG P w K mg base CX k f fd ps sp
section
variable {X : Cx} {CX : CXT} {j k n : Nat} {ps ks : List Str} {sp : Sp} {st : Stmt}
  {E : XK} {x : Str} {p pos : Pos} {e : Expr} {es : List Expr} {kws : List Keyword} {t tk : TA}
  {g : List Value → List Value → List Value} {gV : List V → List V → List V}
theorem Callee.call (C : Callee X.prog X.w X.K X.mg X.base CX0 k x st ps sp) (hG : Gl X x) (hr : Room j X.A) (hg : X.A.guards = some [])
    (ha : PA X (e :: es) t) (hj : k ≤ j := by decide) (hdb : (x == ("__debug__" : Str)) = false := by decide)
    (he : starEach (e :: es) X.env = (false, eval e X.env) :: starEach es X.env := by rfl)
    (hpl : (backTo pos (starEach es X.env)).any (·.1) = false := by rfl) :
    PE X (.Call (.Name x p) (e :: es) [] pos) (tCall sp [] E0 t) := by
  obtain ⟨f, fd, hm, F, b, G⟩ := C.ex
  exact ge_call G (hr.mono hj) hg hG hm F.kp b .nil pass0 ha hdb he hpl
theorem Callee.call0 (C : Callee X.prog X.w X.K X.mg X.base CX0 k x st ps sp) (hG : Gl X x) (hr : Room j X.A) (hg : X.A.guards = some [])
    (hj : k ≤ j := by decide) (hdb : (x == ("__debug__" : Str)) = false := by decide) :
    PE X (.Call (.Name x p) [] [] pos) (tCall sp [] E0 tNil) := by
  obtain ⟨f, fd, hm, F, b, G⟩ := C.ex
  exact ge_call0 G (hr.mono hj) hg hG hm F.kp b .nil pass0 hdb
theorem Callee.kw (C : Callee X.prog X.w X.K X.mg X.base CX0 k x st ps sp)
    (hb : ∀ (f : Addr) (fd : FuncData), Fun X.K x x st f fd → KwB X.K fd ps n ks g gV) (hG : Gl X x) (hr : Room j X.A) (hg : X.A.guards = some [])
    (ha : PA X (e :: es) t) (hkw : PK X kws tk) (hj : k ≤ j := by decide)
    (hall : (backToKw pos (keywordEach kws X.env)).all (·.1.isSome) = true := by rfl)
    (hks : (backToKw pos (keywordEach kws X.env)).filterMap (·.1) = ks := by rfl)
    (hdb : (x == ("__debug__" : Str)) = false := by decide)
    (he : starEach (e :: es) X.env = (false, eval e X.env) :: starEach es X.env := by rfl)
    (hpl : ((backTo pos (starEach (e :: es) X.env)).any (·.1) || (backToKw pos (keywordEach kws X.env)).any (·.1.isNone)) = false := by rfl) :
    PE X (.Call (.Name x p) (e :: es) kws pos) (tKw n ks.length sp gV E0 t tk) := by
  obtain ⟨f, fd, hm, F, b, G⟩ := C.ex
  exact ge_kw G (hr.mono hj) hg hG hm F.kp (hb f fd F) pass0 ha hkw hall hks hdb he hpl
theorem Callee.kw0 (C : Callee X.prog X.w X.K X.mg X.base CX0 k x st ps sp)
    (hb : ∀ (f : Addr) (fd : FuncData), Fun X.K x x st f fd → KwB X.K fd ps 0 ks g gV) (hG : Gl X x) (hr : Room j X.A) (hg : X.A.guards = some [])
    (hkw : PK X kws tk) (hj : k ≤ j := by decide)
    (hall : (backToKw pos (keywordEach kws X.env)).all (·.1.isSome) = true := by rfl)
    (hks : (backToKw pos (keywordEach kws X.env)).filterMap (·.1) = ks := by rfl)
    (hdb : (x == ("__debug__" : Str)) = false := by decide)
    (hpl : ((backTo pos (starEach [] X.env)).any (·.1) || (backToKw pos (keywordEach kws X.env)).any (·.1.isNone)) = false := by rfl) :
    PE X (.Call (.Name x p) [] kws pos) (tKw 0 ks.length sp gV E0 tNil tk) := by
  obtain ⟨f, fd, hm, F, b, G⟩ := C.ex
  exact ge_kw0 G (hr.mono hj) hg hG hm F.kp (hb f fd F) pass0 hkw hall hks hdb hpl
end

/-! ### the law's own call -/
theorem enter_law {P : Program} {w : World} {K : PySem.W.Frag} {mg mb : Str → Option Value} {CX : CXT} {k : Nat} {fa a : Addr} {fd : FuncData}
    {x : Str} {sp : Sp} {s₁ : Shared} {vs : List Value} {ns : List Int}
    (KX : K.In s₁.heap) (hns : s₁.heap.Ns mainGlobals mg) (hb : s₁.heap.Ns builtinsNs mb)
    (hbb : ∀ x : Str, x ≠ "__name__" → mb x = bootBuiltins x) (hlim : s₁.heap.NoLimit) (hg : s₁.gens = #[])
    (ha : s₁.heap.get? a = some { cls := .type "list", data := .seq vs.toArray }) (hi : IntsAre vs ns) (hl : ns.length ≤ sizeLine) (hr : Room k callerA)
    (F : ∀ base : Heap, K.In base → base.Ns mainGlobals mg → FnG P w K mg base CX k fa fd [x] sp)
    (hbind : ∀ (s : Shared) (u : Value), BindsTo s fd ⟨[u], []⟩ [(x, u)])
    (hsp : ∀ H : Hp, Only H → SqL K H a (ns.map V.int) → sp [.ref a] H (fun v _ => v = .bl true) fun _ _ _ => False)
    (hCX : ∀ H e s', CX [] H s₁ (fun _ _ _ => False) e s' → False) :
    codeAny (model P w) callerA (.call (.ref fa) ⟨[.ref a], []⟩)
      (fun r s' => r = .ok (.ret (.bool true)) ∧ OldK s₁.heap s'.heap ∧ s'.os = s₁.os ∧ AllBare s'.gens) s₁ := by
  have rv := vals_ints hi
  have lv := hi.length
  suffices core : ∀ H : Hp, Only H → SqL K H a (ns.map V.int) → HOk P w H s₁.heap → (∀ b, H b ≠ none → b = a) → (H a ≠ none → K.lookup a = none) →
      codeAny (model P w) callerA (.call (.ref fa) ⟨[.ref a], []⟩)
        (fun r s' => r = .ok (.ret (.bool true)) ∧ OldK s₁.heap s'.heap ∧ s'.os = s₁.os ∧ AllBare s'.gens) s₁ by
    cases hk : K.lookup a with
    | some o =>
      have e := KX a o hk
      rw [ha] at e
      obtain rfl := Option.some.inj e
      have nothing : ∀ b : Addr, ¬ ((fun _ => none : Hp) b ≠ none) := fun b z => z rfl
      refine core (fun _ => none) (fun _ => .inl rfl) ?_ ?_ (fun b z => (nothing b z).elim) fun z => (nothing a z).elim
      · exact .inr ⟨_, vs.toArray, _, hk, rfl, rfl, rfl, by rw [List.size_toArray, lv]; exact hl, by simpa using rv⟩
      · intro b u z
        cases (show (none : Option HO) = some u from z)
    | none =>
      have at_a : ∀ {b : Addr} {u : HO}, (if b = a then some (HO.frz { cls := .type "list", data := .seq vs.toArray } (.lst (ns.map V.int))) else none) = some u →
          b = a ∧ u = HO.frz { cls := .type "list", data := .seq vs.toArray } (.lst (ns.map V.int)) := by
        intro b u z
        by_cases q : b = a
        · rw [if_pos q] at z; exact ⟨q, (Option.some.inj z).symm⟩
        · rw [if_neg q] at z; cases z
      refine core (fun b => if b = a then some (.frz { cls := .type "list", data := .seq vs.toArray } (.lst (ns.map V.int))) else none) ?_
        (.inl (.inr ⟨{ cls := .type "list", data := .seq vs.toArray }, if_pos rfl⟩)) ?_ ?_ fun _ => hk
      · intro b
        by_cases q : b = a
        · exact .inr ⟨_, _, if_pos q⟩
        · exact .inl (if_neg q)
      · intro b u z
        obtain ⟨rfl, rfl⟩ := at_a z
        exact ⟨ha, by rw [List.length_map]; exact hl, vs, _, rv, ha⟩
      · intro b z
        by_cases q : b = a
        · exact q
        · exact (z (if_neg q)).elim
  intro H hO hS hok hA hK
  have notDict : ∀ {b : Addr} {o : Obj} {es : Array DictEntry} {ep : Nat}, s₁.heap.get? b = some o → o.data = .dict es ep → H b = none := by
    intro b o es ep e d
    cases q : H b with
    | none => rfl
    | some u =>
      obtain rfl : b = a := hA b (by rw [q]; simp)
      rw [ha] at e
      obtain rfl := Option.some.inj e
      cases (show Data.seq vs.toArray _ = Data.dict es ep from d)
  have nsK : ∀ {b : Addr} {m : Str → Option Value}, s₁.heap.Ns b m → (hidT s₁.heap H).Ns b m := by
    rintro b m ⟨o, es, ep, e, d, r⟩
    exact ⟨o, es, ep, hidT_get e (notDict e d), d, r⟩
  have inB : K.In (hidT s₁.heap H) := by
    intro b o e
    refine hidT_get (KX b o e) ?_
    cases q : H b with
    | none => rfl
    | some u =>
      obtain rfl : b = a := hA b (by rw [q]; simp)
      rw [hK (by rw [q]; simp)] at e
      cases e
  obtain ⟨mc, lim1, lim2⟩ := hlim
  have hM : Mod K mg (hidT s₁.heap H) := ⟨inB, nsK hns, ⟨mb, nsK hb, hbb⟩, mc, nsK lim1, lim2⟩
  have e0 : Env0 P w K mg (hidT s₁.heap H) callerA [] s₁ H :=
    ⟨rfl, hM, fun b o e => of_hidT e, Nat.le_of_eq (hidT_size _ _), trivial, fun b hb => absurd (show b ∈ ([] : List Addr) from hb) (by simp), hok, .of_eq hg⟩
  refine codeAny_mono ((F _ inB (nsK hns)).go callerA [] s₁ H ⟨[.ref a], []⟩ [.ref a] [.ref a] _ _ hr rfl e0 (hbind s₁ (.ref a)) (.cons rfl .nil) (hsp H hO hS)) ?_
  intro r s' h
  cases r with
  | error e => exact (hCX H e s' h).elim
  | ok fl =>
    cases fl with
    | next => exact False.elim h
    | brk => exact False.elim h
    | cont => exact False.elim h
    | ret u =>
      obtain ⟨v, H', os, bare, un, hok', r', q⟩ := h
      obtain rfl : v = .bl true := q
      obtain rfl : u = Value.bool true := r'
      refine ⟨rfl, OldK.of_keep ?_, os, bare⟩
      intro b o e
      cases q : H b with
      | none => exact un.keep b o e q (by intro z; exact absurd (show b ∈ ([] : List Addr) from z) (by simp)) (by simp)
      | some u =>
        rcases hO b with z | ⟨ob, xs, z⟩
        · rw [q] at z; cases z
        · obtain ⟨e1, _⟩ := hok b _ z
          obtain ⟨e2, _⟩ := hok' b _ (un.frzs b ob _ z)
          rw [e] at e1
          cases e1
          exact e2

theorem walk_law {l : PySem.W.OpenLaw} {n k : Nat} {q : Program} {loose : List Str} {XP : (Str → Option Value) → Heap → Prop}
    {YP : World → Heap → Prop} {d : DefRec} {K : Params → PySem.W.Frag} {sp : PySem.W.Frag → Sp} {x : Str}
    (hn : l.most = some n) (hn2 : n ≤ sizeLine) (hdf : d.params.defaults = []) (hr : Room k callerA)
    (hY : ∀ (w : World) (h : Heap), YP w h → (K w.params).In h)
    (F : ∀ (w : World) (mg : Str → Option Value) (fa : Addr) (h : Heap), (K w.params).In h → h.Ns mainGlobals mg → mg d.name = some (.ref fa) →
      ∃ fd : FuncData, (∀ (s : Shared) (u : Value), BindsTo s fd ⟨[u], []⟩ [(x, u)]) ∧
        ∀ base : Heap, (K w.params).In base → base.Ns mainGlobals mg → FnG l.prog w (K w.params) mg base CX0 k fa fd [x] (sp (K w.params)))
    (hsp : ∀ (K : PySem.W.Frag) (H : Hp) (a : Addr) (ns : List Int), ns.length ≤ n → Only H → SqL K H a (ns.map V.int) →
      sp K [.ref a] H (fun v _ => v = .bl true) fun _ _ _ => False) :
    PySem.W.WalkO q loose XP YP l.row.toRowW d [] (fun f vs => PySem.call f vs) := by
  refine Att.attach_call hn hdf ?_
  intro w s₀ s₁ mg mb fa o pm cd doc a vs ns G Y ho hd hcd hmg hobj hints hlen hg
  have KX := hY w _ Y
  obtain ⟨fd, hb, hF⟩ := F w mg fa _ KX G.T.g hmg
  exact enter_law KX G.T.g G.T.b G.T.builtins G.T.nolimit hg hobj hints (Nat.le_trans hlen hn2) hr hF hb
    (fun H hO hS => hsp (K w.params) H a ns hlen hO hS) fun H e s' z => z

/-! ### t[::-1] of a tuple -/
section
variable {prog : Program} {w : World} {A : Around} {E : Value → Shared → Prop} {s : Shared}
theorem revAdjust (n : Nat) : Builtin.Slice.sliceAdjust none none (-1) (n : Int) = ((n : Int) - 1, -1) := by
  first
  | rfl
  | simp [Builtin.Slice.sliceAdjust]
theorem revPlaces (n : Nat) : Builtin.Slice.slicePlaces ((n : Int) - 1) (-1) (-1) = n := by
  unfold Builtin.Slice.slicePlaces
  have h1 : ¬ ((-1 : Int) > 0) := by omega
  simp only [h1, if_false]
  by_cases h : (n : Int) - 1 > -1
  · simp only [h, if_true]
    have e : (-(-1) : Int) = 1 := by decide
    rw [e, Int.ediv_one]
    omega
  · simp only [h, if_false]
    omega
theorem revApplied {sl : Addr} {vs : Value} {n : Nat} {Q : Int × Int × Nat → Shared → Prop} (hs : s.heap.IsSliceOf sl .none .none vs)
    (ps : IsPart vs (some (-1))) (h : Q ((n : Int) - 1, -1, n) s) :
    wpAny (model prog w) A (Builtin.Slice.sliceApplied (.ref sl) (pure (n : Int))) Q E s := by
  obtain ⟨os, hos, hcs, hds⟩ := id hs
  unfold Builtin.Slice.sliceApplied Builtin.Slice.sliceFields
  refine wpAny_bind (wpAny_bind (wpAny_field hos hds (x := .none) rfl (wpAny_bind (wpAny_field hos hds (x := .none) rfl (wpAny_bind (wpAny_field hos hds (x := vs) rfl (wpAny_pure ?_)))))))
  refine wpAny_bind (HT.slicePart_ ps ?_)
  show wpAny _ _ (if ((-1 : Int) == 0) = true then _ else _) _ _ s
  rw [if_neg (by decide)]
  refine wpAny_bind (slicePart_none (wpAny_bind (slicePart_none (wpAny_bind (wpAny_pure ?_)))))
  show wpAny _ _ (match Builtin.Slice.sliceAdjust none none (-1) (n : Int) with | (lo, hi) => pure (lo, (-1 : Int), Builtin.Slice.slicePlaces lo hi (-1))) _ _ s
  rw [revAdjust n]
  show wpAny _ _ (pure ((n : Int) - 1, (-1 : Int), Builtin.Slice.slicePlaces ((n : Int) - 1) (-1) (-1))) _ _ s
  rw [revPlaces]
  exact wpAny_pure h
theorem revPick (xs : Array Value) : ((List.range xs.size).filterMap fun (m : Nat) => xs[((xs.size : Int) - 1 + (m : Int) * -1).toNat]?).toArray = xs.toList.reverse.toArray := by
  congr 1
  have e : (List.range xs.size).filterMap (fun (m : Nat) => xs[((xs.size : Int) - 1 + (m : Int) * -1).toNat]?) = ((List.range xs.size).map (fun k => xs.size - 1 - k)).filterMap (xs[·]?) := by
    rw [List.filterMap_map]
    congr 1
    funext m
    have q : ((xs.size : Int) - 1 + (m : Int) * -1).toNat = xs.size - 1 - m := by omega
    show xs[((xs.size : Int) - 1 + (m : Int) * -1).toNat]? = xs[xs.size - 1 - m]?
    rw [q]
  rw [e, PySem.W.krv_range, List.filterMap_reverse, PySem.W.krv_all]
theorem getItem_tuple_rev {t sl : Addr} {items : Array Value} {vs : Value} {Q : Value → Shared → Prop} (ht : IsTup s.heap t items)
    (hs : s.heap.IsSliceOf sl .none .none vs) (ps : IsPart vs (some (-1)))
    (h : Q (.ref s.heap.objs.size) { s with heap := s.heap.push { cls := .type "tuple", data := .seq items.toList.reverse.toArray } })
    (hsz : items.size ≤ sizeLine) : wpAny (model prog w) A (getItem (.ref t) (.ref sl)) Q E s := by
  have hok : sizeOk (.seq items.toList.reverse.toArray) := by
    show items.toList.reverse.toArray.size ≤ sizeLine
    rw [List.size_toArray, List.length_reverse, Array.length_toList]
    exact hsz
  obtain ⟨os, hos, hcs, hds⟩ := id hs
  have hTs : s.TypeIs (.ref sl) "slice" := ⟨os, hos, hcs⟩
  unfold getItem
  try with_reducible refine wpAny_holding ?_
  first | refine wpAny_bind (wpAny_pure ?_) | skip
  refine wpAny_bind (wpAny_sequenceKey ht.typeIs (by decide) ?_)
  refine wpAny_bind (wpAny_callSpecial?_slot (name := Str.ofString "__getitem__") ht.typeIs PyProof.Rows.slot_tuple_getitem
    (wpAny_call_entry PyProof.Rows.slot_tuple_getitem ht.typeIs entry_tuple_getitem ?_ (args_tuple_getitem _ _)))
  show wpAny _ _ (Builtin.Tuple.tupleItemsOf (.ref t) >>= _) _ _ s
  refine wpAny_bind (tupleItemsOf_ ht ?_)
  refine wpAny_bind (wpAny_typeOf hTs ?_)
  rw [if_pos (by decide)]
  refine wpAny_bind (revApplied hs ps ?_)
  have hno : ¬ ((((items.size : Int) - 1) == 0 && (-1 : Int) == 1 && items.size == items.size) = true) := by
    intro q
    rw [Bool.and_eq_true, Bool.and_eq_true] at q
    exact absurd q.1.2 (by decide)
  show wpAny _ _ (if (((items.size : Int) - 1) == 0 && (-1 : Int) == 1 && items.size == items.size) = true then _ else _) _ _ s
  rw [if_neg hno, revPick]
  first
    | exact wpAny_bind (m := Builtin.Tuple.tupleExact _) (wpAny_newObj_type (wpAny_pure ⟨_, rfl, wpAny_pure h⟩) hok)
    | exact wpAny_bind (m := Builtin.Tuple.tupleExact _) (wpAny_newObj_type (wpAny_bind (wpAny_pure (wpAny_pure ⟨_, rfl, wpAny_pure h⟩))) hok)
    | exact wpAny_bind (wpAny_bind (m := Builtin.Tuple.tupleExact _) (wpAny_newObj_type (wpAny_pure (wpAny_pure ⟨_, rfl, wpAny_pure h⟩)) hok))
    | exact wpAny_bind (wpAny_bind (m := Builtin.Tuple.tupleExact _) (wpAny_newObj_type (wpAny_pure ⟨_, rfl, wpAny_pure h⟩) hok))
end
section
variable {X : Cx}
def tRevT (K : PySem.W.Frag) (te : TE) : TE := fun σ H Q => te σ H fun x H1 =>
  ∃ a xs, x = .ref a ∧ SqT K H1 a xs ∧ ∀ p, H1 p = none → Q (.ref p) (upd H1 p (.tup xs.reverse))
theorem pe_revT {e : Expr} {te : TE} {k : Nat} {p1 p2 p3 pos : Pos} (he : PE X e te) :
    PE X (.Subscript e (.Slice none none (some (.UnaryOp .USub (.Constant (.int 1) k p1) p2)) p3) pos) (tRevT X.K te) := by
  constructor
  intro pins s σ H Q I h
  refine Subscript_ (thn (he.run pins s σ H _ I h) ?_)
  rintro v s1 ⟨x, H1, I1, r1, a, xs, rfl, hx, q⟩
  cases r1
  have hst : PO X (some (.UnaryOp .USub (.Constant (.int 1) k p1) p2)) (tPart (tUn (rU fun i => .int (-i)) (tC (.int 1)))) := po_some (pe_un un_neg pe_int)
  refine wpAny_Slice (thn (po_none.run pins s1 σ H1 (fun o H2 => o = none ∧ H2 = H1) I1 ⟨rfl, rfl⟩) ?_)
  rintro vl s2 ⟨l, H2, I2, pl, rfl, rfl⟩
  refine thn (po_none.run pins s2 σ H2 (fun o H3 => o = none ∧ H3 = H2) I2 ⟨rfl, rfl⟩) ?_
  rintro vu s3 ⟨u, H3, I3, pu, rfl, rfl⟩
  refine thn (hst.run pins s3 σ H3 (fun o H4 => o = some (-1) ∧ H4 = H3) I3 ⟨1, rfl, -1, rfl, rfl, rfl⟩) ?_
  rintro vs s4 ⟨o, H4, I4, ps, rfl, rfl⟩
  cases pl
  cases pu
  have I5 : Inv X pins σ H4 { s4 with heap := s4.heap.push { cls := .type "slice", data := .fields #[.none, .none, vs] } } :=
    I4.kept (t' := s4.toks) fun b ob q => Heap.get?_push_of_some _ q
  obtain ⟨its, r, ht, hz⟩ := I5.tuple hx
  show wpAny (model X.prog X.w) X.A (subscriptTail e (.Slice none none (some (.UnaryOp .USub (.Constant (.int 1) k p1) p2)) p3) (.ref a) (.ref s4.heap.objs.size)) (EP X pins σ Q) X.xe { s4 with heap := s4.heap.push { cls := .type "slice", data := .fields #[.none, .none, vs] } }
  refine tail_any (ops := [.ref a, .ref s4.heap.objs.size]) ht.typeIs (PyProof.Rows.slot_tuple_getitem.lookup) ?_ (by with_unfolding_all rfl)
  refine getItem_tuple_rev ht (Heap.IsSliceOf.new _ .none .none vs) ps ?_ (by rw [List.size_toArray, ← r.length]; exact hz)
  refine ⟨.ref _, _, I5.laid (t' := s4.toks) (o := .tup xs.reverse) (fun b ob q => Heap.get?_push_of_some _ q) (Nat.le_refl _) ?_, rfl, q _ (I5.hok.fresh (Nat.le_refl _))⟩
  exact ⟨by rw [List.length_reverse]; exact hz, _, r.reverse, IsTup.new _ _⟩
end

/-! ### heaps: all but some objects stay -/
def But (l : List Addr) (H H' : Hp) : Prop := ∀ b o, b ∉ l → H b = some o → H' b = some o
theorem But.refl (l : List Addr) (H : Hp) : But l H H := fun _ _ _ h => h
theorem But.trans {l : List Addr} {H H1 H2 : Hp} (a : But l H H1) (b : But l H1 H2) : But l H H2 := fun c o n h => b c o n (a c o n h)
theorem But.mono {l m : List Addr} {H H1 : Hp} (a : But l H H1) (h : ∀ b ∈ l, b ∈ m) : But m H H1 := fun c o n e => a c o (fun z => n (h c z)) e
theorem But.of {H H1 : Hp} (l : List Addr) (a : Same H H1) : But l H H1 := fun c o _ h => a c o h
theorem But.nil {H H1 : Hp} (a : But [] H H1) : Same H H1 := fun c o h => a c o (by simp) h
theorem But.new {l : List Addr} {H H1 : Hp} {p : Addr} {o : HO} (a : But l H H1) (h : H1 p = none) : But l H (upd H1 p o) := fun c u n e => by
  have q := a c u n e
  rw [upd_ne (ne_of_none q h)]; exact q
theorem But.set {l : List Addr} {H H1 : Hp} {p : Addr} {o : HO} (a : But l H H1) (h : p ∈ l) : But l H (upd H1 p o) := fun c u n e => by
  have q : c ≠ p := fun z => n (by rw [z]; exact h)
  rw [upd_ne q]; exact a c u n e
theorem But.fresh {l : List Addr} {H H1 : Hp} {p : Addr} (a : But l H H1) (h : H1 p = none) (n : p ∉ l) : H p = none := by
  cases q : H p with
  | none => rfl
  | some o => rw [a p o n q] at h; cases h
theorem same_new {H : Hp} {p : Addr} {o : HO} (h : H p = none) : Same H (upd H p o) := fun c u e => by rw [upd_ne (ne_of_none e h)]; exact e
theorem same_add {H H1 : Hp} {p : Addr} {o : HO} (a : Same H H1) (h : H1 p = none) : Same H (upd H1 p o) := fun c u e => same_new h c u (a c u e)
theorem But.sq {l : List Addr} {K : PySem.W.Frag} {H H' : Hp} {a : Addr} {xs : List V} (e : But l H H') (n : a ∉ l) (h : SqL K H a xs) : SqL K H' a xs := by
  rcases h with (h | ⟨o, h⟩) | h
  · exact .inl (.inl (e _ _ n h))
  · exact .inl (.inr ⟨o, e _ _ n h⟩)
  · exact .inr h
theorem But.get {l : List Addr} {H H' : Hp} {a : Addr} {o : HO} (e : But l H H') (n : a ∉ l) (h : H a = some o) : H' a = some o := e a o n h
theorem nin1 {a b : Addr} (h : a ≠ b) : a ∉ [b] := by simpa using h
theorem nin2 {a b c : Addr} (h : a ≠ b) (h2 : a ≠ c) : a ∉ [b, c] := by simp [h, h2]
/-- where a test is decided -/
theorem iteD {p A B : Prop} [Decidable p] (h1 : p → A) (h2 : ¬ p → B) : if decide p = true then A else B := by
  by_cases h : p
  · rw [if_pos (decide_eq_true h)]; exact h1 h
  · rw [if_neg (by rw [decide_eq_false h]; exact Bool.false_ne_true)]; exact h2 h
theorem iteN {p A B : Prop} [Decidable p] (h1 : ¬ p → A) (h2 : p → B) : if (!decide p) = true then A else B := by
  by_cases h : p
  · rw [decide_eq_true h]; exact iteF (h2 h)
  · rw [decide_eq_false h]; exact iteT (h1 h)
theorem iteDT {p A B : Prop} [Decidable p] (hp : p) (h1 : A) : if decide p = true then A else B := by rw [if_pos (decide_eq_true hp)]; exact h1
theorem iteDF {p A B : Prop} [Decidable p] (hp : ¬ p) (h1 : B) : if decide p = true then A else B := by rw [if_neg (by rw [decide_eq_false hp]; exact Bool.false_ne_true)]; exact h1
theorem iteNF {p A B : Prop} [Decidable p] (hp : p) (h1 : B) : if (!decide p) = true then A else B := by rw [decide_eq_true hp]; exact iteF h1
theorem iteNT {p A B : Prop} [Decidable p] (hp : ¬ p) (h1 : A) : if (!decide p) = true then A else B := by rw [decide_eq_false hp]; exact iteT h1
theorem mapI_get {ns : List Int} {i : Nat} {y : V} (h : (ns.map V.int)[i]? = some y) : ∃ z, ns[i]? = some z ∧ y = V.int z := by
  rw [List.getElem?_map] at h
  cases e : ns[i]? with
  | none => rw [e] at h; cases h
  | some z => rw [e] at h; exact ⟨z, rfl, (Option.some.inj h).symm⟩
theorem get_lt {α : Type} {l : List α} {i : Nat} {x : α} (h : l[i]? = some x) : i < l.length := (List.getElem?_eq_some_iff.mp h).1
/-- zip of two tuples -/
theorem walk_zipT {K : PySem.W.Frag} {a b : Addr} {xs ys : List V} {n : Nat} (hn : n = min xs.length ys.length) :
    Walk (RZ.ItzT K a b) n (fun H => SqT K H a xs ∧ SqT K H b ys) (YPair (fun i => xs[i]?) (fun i => ys[i]?)) := by
  subst hn
  refine ⟨?_, ?_, ?_⟩
  · intro i H hi q
    have h1 : i < xs.length := by omega
    have h2 : i < ys.length := by omega
    exact ⟨xs, ys, xs[i], ys[i], q.1, q.2, by simp [h1], by simp [h2]⟩
  · intro H q
    exact ⟨xs, ys, q.1, q.2, by omega⟩
  · rintro i H v H' hi q ⟨T, x, z, h1, h2, h3, h4, h5⟩
    exact ⟨T, x, z, h1, h2, h3, h4 xs q.1, h5 ys q.2⟩
theorem sqT_of {K : PySem.W.Frag} {H : Hp} {a : Addr} {xs : List V} (h : H a = some (.tup xs)) : SqT K H a xs := SqT.of h

theorem cut_tail (xs : List V) : cutV xs (some 1) none = xs.tail := by
  cases xs with
  | nil => rfl
  | cons x r =>
    show ((x :: r).drop (HT.sIx (r.length + 1) 0 (some ((1 : Nat) : Int)))).take (HT.sIx (r.length + 1) (r.length + 1) none - HT.sIx (r.length + 1) 0 (some ((1 : Nat) : Int))) = r
    rw [HT.sIx_nat, HT.sIx_none, Nat.min_eq_left (by omega), List.drop_one]
    show r.take (r.length + 1 - 1) = r
    exact List.take_of_length_le (by omega)
theorem not_whole1 {xs : List V} (h : 0 < xs.length) : ¬ (HT.sIx xs.length 0 (some 1) = 0 ∧ HT.sIx xs.length xs.length none = xs.length) := by
  rintro ⟨q, _⟩
  rw [show (1 : Int) = ((1 : Nat) : Int) from rfl, HT.sIx_nat, Nat.min_eq_left (by omega)] at q
  cases q
theorem sIx_none0 (n d : Nat) : HT.sIx n d none = d := rfl
theorem cut_take (xs : List V) (n : Nat) : cutV xs none (some (n : Int)) = xs.take n := by
  unfold cutV
  rw [HT.sIx_nat, HT.sIx_none, List.drop_zero, Nat.sub_zero]
  by_cases h : n ≤ xs.length
  · rw [Nat.min_eq_left h]
  · rw [Nat.min_eq_right (by omega), List.take_of_length_le (Nat.le_refl _), List.take_of_length_le (by omega)]
theorem sum_take_more {l : List Int} {i : Nat} {z : Int} (h : l[i]? = some z) : (l.take (i + 1)).sum = (l.take i).sum + z := sum_take h
theorem cut_ints (ns : List Int) (n : Nat) : cutV (ns.map V.int) none (some (n : Int)) = (ns.take n).map V.int := by rw [cut_take, List.map_take]
theorem atI_mem {α : Type} {xs : List α} {i : Int} (h0 : 0 ≤ i) (h1 : i < xs.length) : ∃ v, atI xs i = some v ∧ v ∈ xs := by
  have e : i = ((i.toNat : Nat) : Int) := by omega
  have hl : i.toNat < xs.length := by omega
  refine ⟨xs[i.toNat], ?_, List.getElem_mem hl⟩
  have q := atI_nat (List.getElem?_eq_getElem hl)
  rw [← e] at q
  exact q
theorem atI_neg1 {α : Type} {xs : List α} (h : xs ≠ []) : ∃ v, atI xs (-1) = some v ∧ xs[xs.length - 1]? = some v := by
  obtain ⟨ys, z, rfl⟩ : ∃ ys z, xs = ys ++ [z] := by
    cases q : xs.reverse with
    | nil => exact absurd (List.reverse_eq_nil_iff.mp q) h
    | cons z r => exact ⟨r.reverse, z, by rw [← List.reverse_reverse xs, q, List.reverse_cons]⟩
  exact ⟨z, atI_last _ _, by simp⟩
theorem But.to {l : List Addr} {H H1 : Hp} {p : Addr} {o : HO} (a : But l H H1) (h : H p = none) : But l H (upd H1 p o) := fun c u n e => by
  rw [upd_ne (ne_of_none e h)]; exact a c u n e
theorem updNe {H : Hp} {a b : Addr} {o u : HO} (h : H b = none) (e : H a = some u) : upd H b o a = some u := by rw [upd_ne (ne_of_none e h)]; exact e
theorem same_to {H H1 : Hp} {p : Addr} {o : HO} (a : Same H H1) (h : H p = none) : Same H (upd H1 p o) := fun c u e => by
  rw [upd_ne (ne_of_none e h)]; exact a c u e
theorem take_snoc {α : Type} {l : List α} {i : Nat} {x : α} (h : l[i]? = some x) : l.take (i + 1) = l.take i ++ [x] := by
  have hi := get_lt h
  rw [List.getElem?_eq_getElem hi] at h
  rw [← Option.some.inj h]
  exact (List.take_append_getElem hi).symm
theorem map_get {α β : Type} {f : α → β} {l : List α} {i : Nat} {x : α} (h : l[i]? = some x) : (l.map f)[i]? = some (f x) := by rw [List.getElem?_map, h]; rfl
theorem same_but {H H1 H2 : Hp} {p : Addr} (s : Same H H1) (n : H p = none) (b : But [p] H1 H2) : Same H H2 := fun c u e =>
  b c u (nin1 (ne_of_none e n)) (s c u e)
theorem shown_small {d : PyData} (h : d.leavesShort 2000 = true) (hb : d.bulk ≤ 8000) : d.shown.length ≤ sizeLine := by
  have q := PyData.shown_le_bulk 2000 (by decide) d h
  have e : (2000 + 2) * d.bulk ≤ 2002 * 8000 := Nat.mul_le_mul_left 2002 hb
  rw [sizeLine_eq]
  omega
theorem int_short {i : Int} (h : i.natAbs.log2 < 1920) : (PyData.int i).leavesShort 2000 = true := by
  simp only [PyData.leavesShort, decide_eq_true_eq]
  exact Nat.le_trans (PyProof.Rows.int_text_len_1921 h) (by decide)
theorem log_small {i : Int} {k : Nat} (h : i.natAbs < 2 ^ k) (h0 : 0 < k) (hk : k ≤ 1920) : i.natAbs.log2 < 1920 := Nat.lt_of_lt_of_le (PySem.Flt.log2_lt_of h0 h) hk
theorem room150 {k : Nat} {A : Around} (r : Room k A) : A.units + 150 < cLine := by have := r.un; omega
/-! ### within a comprehension's block -/
section
variable {X : Cx} {s : Shared} {H : Hp} {sc : Scope} {env : Env} {fp : List Addr}
theorem ix_tupB : IxR (X.blk s H sc env fp) (rIxT X.K) := ix_tup
theorem ix_listB : IxR (X.blk s H sc env fp) (rIxL X.K) := ix_list
theorem sl_listB : SlR (X.blk s H sc env fp) (rSlL X.K) := sl_list
theorem sl_tupB : SlR (X.blk s H sc env fp) (rSlT X.K) := sl_tup
theorem sl_tupAB : SlR (X.blk s H sc env fp) (rSlA X.K) := sl_tupA
theorem pg_tupB {es : List Expr} {k : Nat} {t : TGs} {n : Nat} {pos : Pos} (hc : X.calm = true) (h : PGs (X.blk s H sc env fp) es t)
    (hn : (assignEach es env).length = n := by rfl) (hst : (assignEach es env).findIdx? (·.1) = none := by rfl) :
    PG (X.blk s H sc env fp) (.Tuple es k pos) (gTup X.K n t) := pg_tup (X := X.blk s H sc env fp) hc h hn hst
theorem op_eqDB (hu : X.A.units + 64 < cLine) : OpR (X.blk s H sc env fp) (compareOp .Eq) (rEqD X.K) := op_eqD hu
theorem op_neDB (hu : X.A.units + 64 < cLine) : OpR (X.blk s H sc env fp) (compareOp .NotEq) (rNeD X.K) := op_neD hu
end
/-! ### cuts: what is known in the middle -/
section
variable {X : Cx} {e : Expr} {st : Stmt} {sts : List Stmt} {t : TE} {u : TS}
def eCut (t : TE) : TE := fun σ H Q => ∃ R : VK, t σ H R ∧ ∀ v H', R v H' → Q v H'
theorem pe_cut (h : PE X e t) : PE X e (eCut t) := ⟨fun pins s σ H Q I ⟨R, h1, h2⟩ =>
  thn (h.run pins s σ H R I h1) fun _ _ ⟨v, H', I', r, q⟩ => ⟨v, H', I', r, h2 v H' q⟩⟩
def sCut (t : TS) : TS := fun D σ H => ∃ R : L2.St → Hp → Prop, t { D with nx := R } σ H ∧ ∀ σ' H', R σ' H' → D.nx σ' H'
theorem sp_next {pins : List (Addr × Obj)} {D : Ends} {R : L2.St → Hp → Prop} (h2 : ∀ σ' H', R σ' H' → D.nx σ' H') {f : Flow} {s : Shared}
    (h : SP X pins { D with nx := R } f s) : SP X pins D f s := by
  cases f with
  | next => obtain ⟨σ', H', I', q⟩ := h; exact ⟨σ', H', I', h2 σ' H' q⟩
  | ret v => exact h
  | brk => exact h
  | cont => exact h
theorem ps_cut (h : PS X st u) : PS X st (sCut u) := ⟨fun pins s σ H D I ⟨R, h1, h2⟩ =>
  thn (h.run pins s σ H { D with nx := R } I h1) fun _ _ q => sp_next h2 q⟩
end
/-- what a reading step does not look into -/
structure Box (p : Prop) : Prop where
  t : True
  out : p
theorem Box.of {p : Prop} (h : p) : Box p := ⟨trivial, h⟩
theorem pip_of {X : Cx} {op : Operator} {r : R2} (h : OpR X (inplaceOp op) r) : PIp X op r := h

/-! ### repr of data -/
section
variable {X : Cx}
theorem call_repr_data (hg : X.A.guards = some []) (hu : X.A.units + 150 < cLine) : CallR X (.builtin "repr") (fun xs H Q =>
    ∃ a d, xs = [.ref a] ∧ Dp X.K H (.ref a) d ∧ d.showable = true ∧ SeqAt.shaped d = true ∧ d.shown.length ≤ sizeLine ∧ Q (.str d.shown) H) := by
  intro pins s σ H xs us Q I r h
  obtain ⟨a, d, rfl, hd, hs, hsh, hz, q⟩ := h
  obtain ⟨u, rfl, ru⟩ := vals1 r
  obtain rfl : u = Value.ref a := ru
  obtain ⟨as, rd⟩ := Dp.reads I d (.ref a) (.ref a) hd rfl
  have hnd : d.hasDict = true → sysModules ∉ as := PyData.noDict_hsm (PyData.hasDict_of_canLay d (SeqAt.canLay_of_shaped hsh))
  have hdp := SeqAt.depth_of_shaped hsh
  refine repr_of_reads' rd hs hnd hg (by omega) (fun _ _ q => q) (fun h' u tk hk => ?_) hz
  exact ⟨.str _, H, I.kept hk, ⟨_, rfl⟩, q⟩
end
end Lay

set_option Elab.async false
set_option linter.all false
set_option maxRecDepth 100000
set_option maxHeartbeats 2000000
namespace Lay
open PySem PySem.Spec PyProof.Rows L2

/-! ### methods -/
structure Method (P : Program) (w : World) (K : PySem.W.Frag) (mg : Str → Option Value) (base : Heap)
    (CX : CXT) (k : Nat) (C : Addr) (m : Str) (D : Addr → FuncData → Prop) (ps : List Str) (sp : Sp) : Prop where
  ex : ∃ (f : Addr) (fd : FuncData), Cls K C ∧ Meth K C m f ∧ D f fd ∧ Binds K fd ps [] ∧ FnG P w K mg base CX k f fd ps sp
/-- x = C(..) as its callers see it -/
structure Maker (P : Program) (w : World) (K : PySem.W.Frag) (mg : Str → Option Value) (base : Heap)
    (CX : CXT) (k : Nat) (x : Str) (C : Addr) (D : Addr → FuncData → Prop) (ps : List Str) (sp : Sp) : Prop where
  ex : ∃ (f : Addr) (fd : FuncData), mg x = some (.ref C) ∧ Mk K C f ∧ D f fd ∧ Binds K fd ps [] ∧ FnG P w K mg base CX k f fd ps sp
def tMethE (C : Addr) (m : Str) (sp : Sp) (E : L2.St → XK) (ta : TE) (t : TA) : TE := fun σ H Q => ta σ H fun x H1 =>
  ∃ a dx fs, x = .ref a ∧ H1 a = some (.ins C dx fs) ∧ fs.lookup m = none ∧ t σ H1 fun vs H2 => sp (x :: vs) H2 Q (E σ)
def tMethKw (C : Addr) (m : Str) (n mm : Nat) (sp : Sp) (gV : List V → List V → List V) (E : L2.St → XK) (ta : TE) (t tk : TA) : TE := fun σ H Q => ta σ H fun x H1 =>
  ∃ a dx fs, x = .ref a ∧ H1 a = some (.ins C dx fs) ∧ fs.lookup m = none ∧ t σ H1 fun vs H2 => tk σ H2 fun zs H3 => vs.length = n ∧ zs.length = mm ∧ sp (gV (x :: vs) zs) H3 Q (E σ)
def tMakeE (C : Addr) (sp : Sp) (E : L2.St → XK) (t : TA) : TE := fun σ H Q => t σ H fun vs H1 => ∀ x dx, H1 x = none → H1 dx = none → dx ≠ x →
  sp (.ref x :: vs) (upd (upd H1 dx (.own x)) x (.ins C dx [])) (fun v H2 => v = .non ∧ Q (.ref x) H2) (E σ)
def tMakeKw (C : Addr) (n m : Nat) (sp : Sp) (gV : List V → List V → List V) (E : L2.St → XK) (t tk : TA) : TE := fun σ H Q =>
  t σ H fun vs H1 => tk σ H1 fun zs H2 => vs.length = n ∧ zs.length = m ∧ ∀ x dx, H2 x = none → H2 dx = none → dx ≠ x →
    sp (gV (.ref x :: vs) zs) (upd (upd H2 dx (.own x)) x (.ins C dx [])) (fun v H3 => v = .non ∧ Q (.ref x) H3) (E σ)

section
variable {X : Cx} {CX : CXT} {j k n : Nat} {C : Addr} {m x : Str} {D : Addr → FuncData → Prop} {ps ks : List Str} {sp : Sp} {E : L2.St → XK} {o e : Expr} {es : List Expr}
  {kws : List Keyword} {ta : TE} {t tk : TA} {apos pos p : Pos} {pl : Sem Bool} {f : Addr} {fd : FuncData}
  {g : List Value → List Value → List Value} {gV : List V → List V → List V}
theorem backS {pins : List (Addr × Obj)} {σ : L2.St} {H : Hp} {s : Shared} {Q : VK} {E : XK} (hx : PassesAt CX X σ E) (I : Inv X pins σ H s)
    {r : Result} {s' : Shared} (hq : CR CX X.stack X.prog X.w H s Q E r s') :
    (match r with | .ok (.ret u) => EP X pins σ Q u s' | .ok _ => False | .error e => X.xe e s') := by
  cases r with
  | error e => exact hx pins H s e s' I hq
  | ok fl =>
    cases fl with
    | ret u => exact I.after hq
    | next => exact hq
    | brk => exact hq
    | cont => exact hq
theorem gcallS {pins : List (Addr × Obj)} {σ : L2.St} {H : Hp} {s : Shared} {Q : VK} {E : XK} {args : Args} {us : List Value} {vs : List V}
    (F : FnG X.prog X.w X.K X.mg X.base CX k f fd ps sp) (hr : Room k X.A) (hg : X.A.guards = some [])
    (hb : BindsTo s fd args (ps.zip us)) (hx : PassesAt CX X σ E) (I : Inv X pins σ H s) (r : Vals vs us) (h : sp vs H Q E) :
    wpAny (model X.prog X.w) X.A (call (.ref f) args.pos args.kw) (EP X pins σ Q) X.xe s := by
  obtain ⟨ap, ak⟩ := args
  refine wpAny_call (codeAny_mono (F.go X.A X.stack s H ⟨ap, ak⟩ us vs Q E hr hg I.env0 hb r h) ?_)
  intro r s' hq
  have z := backS hx I hq
  cases r with
  | error e => exact z
  | ok fl =>
    cases fl with
    | ret u => exact z
    | next => exact z.elim
    | brk => exact z.elim
    | cont => exact z.elim
theorem atAll {E : XK} (h : Passes CX X E) (σ : L2.St) : PassesAt CX X σ E := fun pins H s e s' I c => h pins σ H s e s' I c

/-- o.m(e, ..) -/
theorem Method.methE (M : Method X.prog X.w X.K X.mg X.base CX k C m D ps sp) (he : PE X o ta) (hr : Room j X.A) (hg : X.A.guards = some [])
    (hx : ∀ σ, PassesAt CX X σ (E σ)) (ha : PA X (e :: es) t) (hj : k ≤ j := by decide)
    (hst : starEach (e :: es) X.env = (false, eval e X.env) :: starEach es X.env := by rfl) (hpl : (backTo pos (starEach es X.env)).any (·.1) = false := by rfl)
    (ht : eval (.Call (.Attribute o m apos) (e :: es) [] pos) X.env = (do
      let ov ← eval o X.env
      standAt apos.atName
      let (f, first) ← holding [ov] (getMethod ov m pl)
      callWith pos f first (backTo pos (starEach (e :: es) X.env)) (backToKw pos (keywordEach [] X.env))) := by rfl) :
    PE X (.Call (.Attribute o m apos) (e :: es) [] pos) (tMethE C m sp E ta t) := by
  obtain ⟨f, fd, c, hm, F, b, G⟩ := M.ex
  constructor
  intro pins s σ H Q I h
  refine PySem.W.methodCall_KW (pl := pl) (thn (he.run pins s σ H _ I h) ?_) ht
  rintro u s1 ⟨x, H1, I1, rx, a, dx, fs, rfl, ea, l, z⟩
  obtain rfl : u = Value.ref a := rx
  refine getmeth_ok I1 ea c hm l ?_
  refine PySem.W.callWith_K (first := [.ref a]) (h₀ := X.base) I.ok.mod.kin hm.kp (thn (ha.run pos pins s1 σ H1 _ I1 z) ?_) hst hpl
  rintro us s2 ⟨vs, H2, I2, r, z2⟩
  refine ⟨I2.kIn, ?_⟩
  have r2 : Vals (V.ref a :: vs) (Value.ref a :: us) := .cons rfl r
  have hl : (Value.ref a :: us).length = ps.length := by rw [← r2.length]; exact G.ln _ _ _ _ z2
  have bb := b s2 (.ref a :: us) I2.kIn (by rw [List.append_nil]; exact hl)
  rw [List.append_nil] at bb
  exact gcallS (args := ⟨.ref a :: us, []⟩) G (hr.mono hj) hg bb (hx σ) I2 r2 z2
/-- o.m() -/
theorem Method.methE0 (M : Method X.prog X.w X.K X.mg X.base CX k C m D ps sp) (he : PE X o ta) (hr : Room j X.A) (hg : X.A.guards = some [])
    (hx : ∀ σ, PassesAt CX X σ (E σ)) (hj : k ≤ j := by decide)
    (ht : eval (.Call (.Attribute o m apos) [] [] pos) X.env = (do
      let ov ← eval o X.env
      standAt apos.atName
      let (f, first) ← holding [ov] (getMethod ov m pl)
      callWith pos f first (backTo pos (starEach [] X.env)) (backToKw pos (keywordEach [] X.env))) := by rfl) :
    PE X (.Call (.Attribute o m apos) [] [] pos) (tMethE C m sp E ta tNil) := by
  obtain ⟨f, fd, c, hm, F, b, G⟩ := M.ex
  constructor
  intro pins s σ H Q I h
  refine PySem.W.methodCall_KW (pl := pl) (thn (he.run pins s σ H _ I h) ?_) ht
  rintro u s1 ⟨x, H1, I1, rx, a, dx, fs, rfl, ea, l, z⟩
  obtain rfl : u = Value.ref a := rx
  refine getmeth_ok I1 ea c hm l ?_
  have r2 : Vals [V.ref a] [Value.ref a] := .cons rfl .nil
  have hl : [Value.ref a].length = ps.length := by rw [← r2.length]; exact G.ln _ _ _ _ z
  have bb := b s1 [.ref a] I1.kIn (by rw [List.append_nil]; exact hl)
  rw [List.append_nil] at bb
  exact PySem.W.callWith_K0 (first := [.ref a]) I1.kIn hm.kp (gcallS (args := ⟨[.ref a], []⟩) G (hr.mono hj) hg bb (hx σ) I1 r2 z)
theorem Method.meth (M : Method X.prog X.w X.K X.mg X.base CX0 k C m D ps sp) (he : PE X o ta) (hr : Room j X.A) (hg : X.A.guards = some [])
    (ha : PA X (e :: es) t) (hj : k ≤ j := by decide)
    (hst : starEach (e :: es) X.env = (false, eval e X.env) :: starEach es X.env := by rfl) (hpl : (backTo pos (starEach es X.env)).any (·.1) = false := by rfl)
    (ht : eval (.Call (.Attribute o m apos) (e :: es) [] pos) X.env = (do
      let ov ← eval o X.env
      standAt apos.atName
      let (f, first) ← holding [ov] (getMethod ov m pl)
      callWith pos f first (backTo pos (starEach (e :: es) X.env)) (backToKw pos (keywordEach [] X.env))) := by rfl) :
    PE X (.Call (.Attribute o m apos) (e :: es) [] pos) (tMethE C m sp (fun _ => E0) ta t) := M.methE he hr hg (atAll pass0) ha hj hst hpl ht
theorem Method.meth0 (M : Method X.prog X.w X.K X.mg X.base CX0 k C m D ps sp) (he : PE X o ta) (hr : Room j X.A) (hg : X.A.guards = some [])
    (hj : k ≤ j := by decide)
    (ht : eval (.Call (.Attribute o m apos) [] [] pos) X.env = (do
      let ov ← eval o X.env
      standAt apos.atName
      let (f, first) ← holding [ov] (getMethod ov m pl)
      callWith pos f first (backTo pos (starEach [] X.env)) (backToKw pos (keywordEach [] X.env))) := by rfl) :
    PE X (.Call (.Attribute o m apos) [] [] pos) (tMethE C m sp (fun _ => E0) ta tNil) := M.methE0 he hr hg (atAll pass0) hj ht
/-- o.m(k = v, ..) -/
theorem Method.methKw0 (M : Method X.prog X.w X.K X.mg X.base CX k C m D ps sp)
    (hb : ∀ (f : Addr) (fd : FuncData), D f fd → KwB X.K fd ps 1 ks g gV) (he : PE X o ta) (hr : Room j X.A) (hg : X.A.guards = some [])
    (hx : ∀ σ, PassesAt CX X σ (E σ)) (hkw : PK X kws tk) (hj : k ≤ j := by decide)
    (hall : (backToKw pos (keywordEach kws X.env)).all (·.1.isSome) = true := by rfl)
    (hks : (backToKw pos (keywordEach kws X.env)).filterMap (·.1) = ks := by rfl)
    (hpl : ((backTo pos (starEach [] X.env)).any (·.1) || (backToKw pos (keywordEach kws X.env)).any (·.1.isNone)) = false := by rfl)
    (ht : eval (.Call (.Attribute o m apos) [] kws pos) X.env = (do
      let ov ← eval o X.env
      standAt apos.atName
      let (f, first) ← holding [ov] (getMethod ov m pl)
      callWith pos f first (backTo pos (starEach [] X.env)) (backToKw pos (keywordEach kws X.env))) := by rfl) :
    PE X (.Call (.Attribute o m apos) [] kws pos) (tMethKw C m 0 ks.length sp gV E ta tNil tk) := by
  obtain ⟨f, fd, c, hm, F, b, G⟩ := M.ex
  constructor
  intro pins s σ H Q I h
  refine PySem.W.methodCall_KW (pl := pl) (thn (he.run pins s σ H _ I h) ?_) ht
  rintro u s1 ⟨x, H1, I1, rx, a, dx, fs, rfl, ea, l, z⟩
  obtain rfl : u = Value.ref a := rx
  refine getmeth_ok I1 ea c hm l ?_
  refine PySem.W.callWith_KW0 (first := [.ref a]) (h₀ := X.base) I.ok.mod.kin hm.kp hall ?_ hpl
  refine thn (hkw.run pos pins s1 σ H1 _ I1 z) ?_
  rintro ws s2 ⟨zs, H2, I2, rz, l1, l2, q2⟩
  refine ⟨I2.kIn, ?_⟩
  rw [hks]
  have kb := hb f fd F
  exact gcallS (args := ⟨[.ref a], ks.zip ws⟩) G (hr.mono hj) hg (kb.to s2 [.ref a] ws I2.kIn rfl (by rw [← rz.length]; exact l2)) (hx σ) I2
    (kb.rel [.ref a] zs [.ref a] ws rfl l2 (.cons rfl .nil) rz) q2
/-- o.m(e, .., k = v, ..) -/
theorem Method.methKw (M : Method X.prog X.w X.K X.mg X.base CX k C m D ps sp)
    (hb : ∀ (f : Addr) (fd : FuncData), D f fd → KwB X.K fd ps (n + 1) ks g gV) (he : PE X o ta) (hr : Room j X.A) (hg : X.A.guards = some [])
    (hx : ∀ σ, PassesAt CX X σ (E σ)) (ha : PA X (e :: es) t) (hkw : PK X kws tk) (hj : k ≤ j := by decide)
    (hall : (backToKw pos (keywordEach kws X.env)).all (·.1.isSome) = true := by rfl)
    (hks : (backToKw pos (keywordEach kws X.env)).filterMap (·.1) = ks := by rfl)
    (hst : starEach (e :: es) X.env = (false, eval e X.env) :: starEach es X.env := by rfl)
    (hpl : ((backTo pos (starEach (e :: es) X.env)).any (·.1) || (backToKw pos (keywordEach kws X.env)).any (·.1.isNone)) = false := by rfl)
    (ht : eval (.Call (.Attribute o m apos) (e :: es) kws pos) X.env = (do
      let ov ← eval o X.env
      standAt apos.atName
      let (f, first) ← holding [ov] (getMethod ov m pl)
      callWith pos f first (backTo pos (starEach (e :: es) X.env)) (backToKw pos (keywordEach kws X.env))) := by rfl) :
    PE X (.Call (.Attribute o m apos) (e :: es) kws pos) (tMethKw C m n ks.length sp gV E ta t tk) := by
  obtain ⟨f, fd, c, hm, F, b, G⟩ := M.ex
  constructor
  intro pins s σ H Q I h
  refine PySem.W.methodCall_KW (pl := pl) (thn (he.run pins s σ H _ I h) ?_) ht
  rintro u s1 ⟨x, H1, I1, rx, a, dx, fs, rfl, ea, l, z⟩
  obtain rfl : u = Value.ref a := rx
  refine getmeth_ok I1 ea c hm l ?_
  refine PySem.W.callWith_KW (first := [.ref a]) (h₀ := X.base) I.ok.mod.kin hm.kp hall (thn (ha.run pos pins s1 σ H1 _ I1 z) ?_) hpl hst
  rintro us s2 ⟨vs, H2, I2, r, z2⟩
  refine thn (hkw.run pos pins s2 σ H2 _ I2 z2) ?_
  rintro ws s3 ⟨zs, H3, I3, rz, l1, l2, q2⟩
  refine ⟨I3.kIn, ?_⟩
  rw [hks]
  have kb := hb f fd F
  exact gcallS (args := ⟨.ref a :: us, ks.zip ws⟩) G (hr.mono hj) hg (kb.to s3 (.ref a :: us) ws I3.kIn (by rw [List.length_cons, ← r.length, l1]) (by rw [← rz.length]; exact l2)) (hx σ) I3
    (kb.rel (.ref a :: vs) zs (.ref a :: us) ws (by rw [List.length_cons, l1]) l2 (.cons rfl r) rz) q2

/-- C(e, ..) -/
theorem gmake {pins : List (Addr × Obj)} {σ : L2.St} {H : Hp} {s : Shared} {Q : VK} {E : XK} {us : List Value} {kw : List (Str × Value)} {vs : List V} {wz : Value → List Value} {vz : V → List V}
    (M : Mk X.K C f) (F : FnG X.prog X.w X.K X.mg X.base CX k f fd ps sp) (hr : Room (k + 1) X.A) (hg : X.A.guards = some [])
    (hb : ∀ (s : Shared) (a : Addr), X.K.In s.heap → BindsTo s fd ⟨.ref a :: us, kw⟩ (ps.zip (wz (.ref a)))) (hx : PassesAt CX X σ E)
    (I : Inv X pins σ H s) (r : ∀ a : Addr, Vals (vz (.ref a)) (wz (.ref a)))
    (h : ∀ x dx, H x = none → H dx = none → dx ≠ x → sp (vz (.ref x)) (upd (upd H dx (.own x)) x (.ins C dx [])) (fun v H2 => v = .non ∧ Q (.ref x) H2) E) :
    wpAny (model X.prog X.w) X.A (call (.ref C) us kw) (EP X pins σ Q) X.xe s := by
  have n1 : H (s.heap.objs.size + 1) = none := I.hok.fresh (Nat.le_succ _)
  have n0 : H s.heap.objs.size = none := I.hok.fresh (Nat.le_refl _)
  have hq := h (s.heap.objs.size + 1) s.heap.objs.size n1 n0 (Nat.ne_of_lt (Nat.lt_succ_self _))
  have I2 := Inv.made (C := C) I
  refine wpAny_call (make_map (f := f) I.kIn M.makes M.init (beq_iff_eq.mp M.fn) (codeAny_mono (F.go _ X.stack _ _ ⟨Value.ref (s.heap.objs.size + 1) :: us, kw⟩ _ _ _ E (hr.make C us kw)
    (guards_make hg) (I2.env0.make C us kw) (hb _ (s.heap.objs.size + 1) I2.kIn) (r _) hq) ?_))
  intro r s' hq'
  have z := backS hx I2 hq'
  cases r with
  | error e => exact z
  | ok fl =>
    cases fl with
    | ret u =>
      obtain ⟨v, H', I3, rv, rfl, q3⟩ := z
      exact ⟨rv, ⟨V.ref (s.heap.objs.size + 1), H', I3, rfl, q3⟩⟩
    | next => exact z.elim
    | brk => exact z.elim
    | cont => exact z.elim
theorem Maker.makeE (M : Maker X.prog X.w X.K X.mg X.base CX k x C D ps sp) (hG : Gl X x) (hr : Room j X.A) (hg : X.A.guards = some [])
    (hx : ∀ σ, PassesAt CX X σ (E σ)) (ha : PA X (e :: es) t) (hj : k + 1 ≤ j := by decide)
    (hdb : (x == ("__debug__" : Str)) = false := by decide) (he : starEach (e :: es) X.env = (false, eval e X.env) :: starEach es X.env := by rfl)
    (hpl : (backTo pos (starEach es X.env)).any (·.1) = false := by rfl) :
    PE X (.Call (.Name x p) (e :: es) [] pos) (tMakeE C sp E t) := by
  obtain ⟨f, fd, hm, hM, F, b, G⟩ := M.ex
  constructor
  intro pins s σ H Q I h
  refine wpAny_Call_Name_kw (ld_glob I hG hm ?_ hdb)
  refine PySem.W.callWith_K (h₀ := X.base) I.ok.mod.kin hM.kp (thn (ha.run pos pins s σ H _ I h) ?_) he hpl
  rintro us s1 ⟨vs, H1, I1, r, z⟩
  refine ⟨I1.kIn, ?_⟩
  have hl : us.length + 1 = ps.length := by
    have z0 := G.ln _ _ _ _ (z (s1.heap.objs.size + 1) s1.heap.objs.size (I1.hok.fresh (Nat.le_succ _)) (I1.hok.fresh (Nat.le_refl _)) (Nat.ne_of_lt (Nat.lt_succ_self _)))
    rw [List.length_cons, r.length] at z0
    exact z0
  refine gmake (vs := vs) (wz := fun a => a :: us) (vz := fun a => a :: vs) hM G (hr.mono hj) hg (fun s a ks => ?_) (hx σ) I1 (fun a => .cons rfl r) z
  have bb := b s (.ref a :: us) ks (by rw [List.append_nil]; exact hl)
  rw [List.append_nil] at bb
  exact bb
theorem Maker.makeKw (M : Maker X.prog X.w X.K X.mg X.base CX k x C D ps sp) (hb : ∀ (f : Addr) (fd : FuncData), D f fd → KwB X.K fd ps (n + 1) ks g gV)
    (hG : Gl X x) (hr : Room j X.A) (hg : X.A.guards = some [])
    (hx : ∀ σ, PassesAt CX X σ (E σ)) (ha : PA X (e :: es) t) (hkw : PK X kws tk) (hj : k + 1 ≤ j := by decide)
    (hall : (backToKw pos (keywordEach kws X.env)).all (·.1.isSome) = true := by rfl)
    (hks : (backToKw pos (keywordEach kws X.env)).filterMap (·.1) = ks := by rfl)
    (hdb : (x == ("__debug__" : Str)) = false := by decide) (he : starEach (e :: es) X.env = (false, eval e X.env) :: starEach es X.env := by rfl)
    (hpl : ((backTo pos (starEach (e :: es) X.env)).any (·.1) || (backToKw pos (keywordEach kws X.env)).any (·.1.isNone)) = false := by rfl) :
    PE X (.Call (.Name x p) (e :: es) kws pos) (tMakeKw C n ks.length sp gV E t tk) := by
  obtain ⟨f, fd, hm, hM, F, b, G⟩ := M.ex
  have kb := hb f fd F
  constructor
  intro pins s σ H Q I h
  refine wpAny_Call_Name_kw (ld_glob I hG hm ?_ hdb)
  refine PySem.W.callWith_KW (h₀ := X.base) I.ok.mod.kin hM.kp hall (thn (ha.run pos pins s σ H _ I h) ?_) hpl he
  rintro us s1 ⟨vs, H1, I1, r, z⟩
  refine thn (hkw.run pos pins s1 σ H1 _ I1 z) ?_
  rintro ws s2 ⟨zs, H2, I2, rz, l1, l2, z2⟩
  refine ⟨I2.kIn, ?_⟩
  rw [hks]
  have n1 : us.length = n := by rw [← r.length]; exact l1
  have n2 : ws.length = ks.length := by rw [← rz.length]; exact l2
  refine gmake (vs := vs) (wz := fun a => g (a :: us) ws) (vz := fun a => gV (a :: vs) zs) hM G (hr.mono hj) hg (fun s a kk => kb.to s (.ref a :: us) ws kk (by rw [List.length_cons, n1]) n2) (hx σ) I2
    (fun a => kb.rel (.ref a :: vs) zs (.ref a :: us) ws (by rw [List.length_cons, l1]) l2 (.cons rfl r) rz) z2
theorem Maker.makeKw0 (M : Maker X.prog X.w X.K X.mg X.base CX k x C D ps sp) (hb : ∀ (f : Addr) (fd : FuncData), D f fd → KwB X.K fd ps 1 ks g gV)
    (hG : Gl X x) (hr : Room j X.A) (hg : X.A.guards = some [])
    (hx : ∀ σ, PassesAt CX X σ (E σ)) (hkw : PK X kws tk) (hj : k + 1 ≤ j := by decide)
    (hall : (backToKw pos (keywordEach kws X.env)).all (·.1.isSome) = true := by rfl)
    (hks : (backToKw pos (keywordEach kws X.env)).filterMap (·.1) = ks := by rfl)
    (hdb : (x == ("__debug__" : Str)) = false := by decide)
    (hpl : ((backTo pos (starEach [] X.env)).any (·.1) || (backToKw pos (keywordEach kws X.env)).any (·.1.isNone)) = false := by rfl) :
    PE X (.Call (.Name x p) [] kws pos) (tMakeKw C 0 ks.length sp gV E tNil tk) := by
  obtain ⟨f, fd, hm, hM, F, b, G⟩ := M.ex
  have kb := hb f fd F
  constructor
  intro pins s σ H Q I h
  refine wpAny_Call_Name_kw (ld_glob I hG hm ?_ hdb)
  refine PySem.W.callWith_KW0 (h₀ := X.base) I.ok.mod.kin hM.kp hall ?_ hpl
  refine thn (hkw.run pos pins s σ H _ I h) ?_
  rintro ws s2 ⟨zs, H2, I2, rz, l1, l2, z2⟩
  refine ⟨I2.kIn, ?_⟩
  rw [hks]
  have n2 : ws.length = ks.length := by rw [← rz.length]; exact l2
  refine gmake (vs := []) (wz := fun a => g [a] ws) (vz := fun a => gV [a] zs) hM G (hr.mono hj) hg (fun s a kk => kb.to s [.ref a] ws kk rfl n2) (hx σ) I2
    (fun a => kb.rel [.ref a] zs [.ref a] ws rfl l2 (.cons rfl .nil) rz) z2
end

/-! ### f(e, ..) of a def that may raise -/
section
variable {X : Cx} {CX : CXT} {j k : Nat} {x : Str} {st : Stmt} {ps : List Str} {sp : Sp} {E : L2.St → XK} {e : Expr} {es : List Expr} {t : TA} {p pos : Pos}
theorem Callee.callE (C : Callee X.prog X.w X.K X.mg X.base CX k x st ps sp) (hG : Gl X x) (hr : Room j X.A) (hg : X.A.guards = some [])
    (hx : ∀ σ, PassesAt CX X σ (E σ)) (ha : PA X (e :: es) t) (hj : k ≤ j := by decide) (hdb : (x == ("__debug__" : Str)) = false := by decide)
    (he : starEach (e :: es) X.env = (false, eval e X.env) :: starEach es X.env := by rfl)
    (hpl : (backTo pos (starEach es X.env)).any (·.1) = false := by rfl) :
    PE X (.Call (.Name x p) (e :: es) [] pos) (tCallS sp E t) := by
  obtain ⟨f, fd, hm, F, b, G⟩ := C.ex
  constructor
  intro pins s σ H Q I h
  refine wpAny_Call_Name_kw (ld_glob I hG hm ?_ hdb)
  refine PySem.W.callWith_K (h₀ := X.base) I.ok.mod.kin F.kp (thn (ha.run pos pins s σ H _ I h) ?_) he hpl
  rintro us s1 ⟨vs, H1, I1, r, z⟩
  refine ⟨I1.kIn, ?_⟩
  have hl : us.length = ps.length := by rw [← r.length]; exact G.ln _ _ _ _ z
  have bb := b s1 us I1.kIn (by rw [List.append_nil]; exact hl)
  rw [List.append_nil] at bb
  exact gcallS (args := ⟨us, []⟩) G (hr.mono hj) hg bb (hx σ) I1 r z
end

/-- an own class: its fields, what isinstance asks -/
structure Own (K : PySem.W.Frag) (C : Addr) (fields : List Str) : Prop where
  cl : Cls K C
  no : ∀ f ∈ fields, NoAttr K C f
  ha : PySem.W.findIn K (.ref C) "__class__" = some (some (.builtin "object.__class__"))
  hn : PySem.W.specialIn K (.builtin "object.__class__") "__get__" = some (some (.builtin "getset_descriptor.__get__"))
  htk : PySem.W.takesIn K (.builtin "object.__class__") = some true
  hm : PySem.W.mroIn K C (.type "object") = some true
theorem Own.ty {K : PySem.W.Frag} {C : Addr} {fields : List Str} (O : Own K C fields) {H : Hp} {a dx : Addr} {fs : List (Str × V)} (e : H a = some (.ins C dx fs)) : TyX K H (.ref a) (.ref C) :=
  .base (.ins e O.cl O.ha O.hn O.htk O.hm)
theorem kit_self {K : PySem.W.Frag} {C : Addr} : PySem.W.kitOne K (.ref C) (.ref C) = some true := by
  unfold PySem.W.kitOne
  rw [if_pos (by simp)]

/-! ### G.__init__(self, ..), G an own exception class without an __init__ of its own -/
section
variable {X : Cx} {e : Expr} {es : List Expr} {ta : TA} {p1 p2 pos : Pos} {x : Str} {C : Addr} {mc : Value}
theorem pe_ginit {pl : Sem Bool} (hg : Gl X x) (hm : X.mg x = some (.ref C)) (sg : PySem.W.specialIn X.K (.ref C) "__getattribute__" = some (some (.builtin "type.__getattribute__")))
    (hr : PySem.W.readsIn X.K C mc = true) (vV : PySem.W.findCls X.K (.ref C) mc "__init__" = some (.val (.builtin "ValueError.__init__"))) (ha : PA X (e :: es) ta)
    (hdb : (x == ("__debug__" : Str)) = false := by decide)
    (hc : eval (.Call (.Attribute (.Name x p1) "__init__" p2) (e :: es) [] pos) X.env = (do
      let ov ← eval (.Name x p1) X.env
      standAt p2.atName
      let (f, first) ← holding [ov] (getMethod ov "__init__" pl)
      callWith pos f first (backTo pos (starEach (e :: es) X.env)) (backToKw pos (keywordEach [] X.env))) := by rfl)
    (he : starEach (e :: es) X.env = (false, eval e X.env) :: starEach es X.env := by rfl) (hpl : (backTo pos (starEach es X.env)).any (·.1) = false := by rfl) :
    PE X (.Call (.Attribute (.Name x p1) "__init__" p2) (e :: es) [] pos) (tVeI X.K ta) := by
  constructor
  intro pins s σ H Q I h
  refine PySem.W.methodCall_KW (ld_glob I hg hm ?_ hdb) hc
  refine PySem.W.method_cls I.kIn sg (PySem.W.cls_value I.kIn hr vV (by decide +kernel) ?_)
  refine PyProof.Rows.callWith_method1 (thn (ha.run pos pins _ σ H _ (I.tok _) h) ?_) he hpl
  rintro us s1 ⟨vs, H1, I1, r1, a, C', ws, ev, hl, T, ea, z⟩
  subst ev
  cases r1 with
  | @cons _ u0 _ ur ra rw' =>
    obtain rfl : u0 = Value.ref a := ra
    have hlen : ur.length ≤ sizeLine := by
      rw [← Paired.length rw', sizeLine_eq]
      omega
    exact oinit_ok T I1 ea hlen fun s' J => ⟨.non, H1, J, rfl, z⟩
end

/-- an own exception class whose __init__ is ValueError's -/
structure GBase (K : PySem.W.Frag) (mg : Str → Option Value) (x : Str) (C : Addr) : Prop where
  mgx : mg x = some (.ref C)
  sg : PySem.W.specialIn K (.ref C) "__getattribute__" = some (some (.builtin "type.__getattribute__"))
  rd : PySem.W.readsIn K C (.type "type") = true
  vV : PySem.W.findCls K (.ref C) (.type "type") "__init__" = some (.val (.builtin "ValueError.__init__"))
/-! ### defs with defaults, by their bodies -/
section
variable {P : Program} {w : World} {K : PySem.W.Frag} {mg : Str → Option Value} {base : Heap} {k : Nat} {f : Addr} {fd : FuncData} {ps : List Str} {sp : Sp}
theorem gbodyD {CX : CXT} {x qual : Str} {params : Arguments} {body : List Stmt} {scope : Scope} {dvs : List V} {kws : List (Str × V)} {N : List Str}
    (F : FunD K x qual params body scope dvs kws f fd) (S : FnScope N ps scope) (ln : ∀ vs H Q E, sp vs H Q E → vs.length = ps.length)
    (hb : ∀ (cdv : Value) (A : Around) (outer : List Env) (s : Shared) (H : Hp) (vs : List V) (Q : VK) (E : XK),
      Room k (A.deeper (envOfC qual scope s.heap.objs.size f cdv)) → (A.deeper (envOfC qual scope s.heap.objs.size f cdv)).guards = some [] → sp vs H Q E →
      ∃ t, PSs (cxOf CX P w K mg base N qual scope f cdv A outer s H E) body t ∧ t { nx := fun _ H' => Q .non H', rt := Q } (start N vs) H) :
    FnG P w K mg base CX (k + 1) f fd ps sp := by
  obtain ⟨oc, od, dV, kV, doc, pm, an, cdv, ct, osl, rfl, lk, hcd, _, _⟩ := F.ex
  exact fg_of lk hcd S ln fun A outer s H vs Q E hr hg hsp => hb cdv A outer s H vs Q E hr hg hsp
end

/-! ### what was just laid, told without its heap's form -/
section
variable {X : Cx} {e : Expr} {es : List Expr} {t : TA} {te : TE} {pos : Pos}
abbrev Newly (H : Hp) (o : HO) (Q : VK) : Prop := ∀ (p : Addr) (H' : Hp), H p = none → Same H H' → H' p = some o → Q (.ref p) H'
theorem Newly.out {H : Hp} {o : HO} {Q : VK} (h : Newly H o Q) : ∀ p, H p = none → Q (.ref p) (upd H p o) := fun p hp => h p _ hp (same_new hp) upd_same
def tTupN (t : TA) : TE := fun σ H Q => t σ H fun xs H1 => xs.length ≤ sizeLine ∧ Newly H1 (.tup xs) Q
def tLstN (t : TA) : TE := fun σ H Q => t σ H fun xs H1 => xs.length ≤ sizeLine ∧ Newly H1 (.lst xs) Q
theorem pa_cut0 {t : TA} (h : PA X es t) : PA X es (fun σ H Q => ∃ R : List V → Hp → Prop, t σ H R ∧ ∀ vs H', R vs H' → Q vs H') := ⟨fun pos pins s σ H Q I ⟨R, h1, h2⟩ =>
  thn (h.run pos pins s σ H R I h1) fun _ _ ⟨vs, H', I', r, q⟩ => ⟨vs, H', I', r, h2 vs H' q⟩⟩
theorem pe_tupN {x1} (h : PA X es t) : PE X (.Tuple es x1 pos) (tTupN t) :=
  ⟨fun pins s σ H Q I q => (pe_tup (pa_cut0 h)).run pins s σ H Q I ⟨_, q, fun _ _ ⟨l, z⟩ => ⟨l, Newly.out z⟩⟩⟩
theorem pe_lstN (h : PA X es t) : PE X (.List es pos) (tLstN t) :=
  ⟨fun pins s σ H Q I q => (pe_lst (pa_cut0 h)).run pins s σ H Q I ⟨_, q, fun _ _ ⟨l, z⟩ => ⟨l, Newly.out z⟩⟩⟩
def rCatN : R2 := fun x y H Q => ∃ l b xs zs, x = .ref l ∧ y = .ref b ∧ H l = some (.lst xs) ∧ H b = some (.lst zs) ∧ xs.length + zs.length ≤ sizeLine ∧ Newly H (.lst (xs ++ zs)) Q
theorem op_catN : OpR X (binaryOp .Add) rCatN := fun pins s σ H x y v u Q I rx ry ⟨l, b, xs, zs, h1, h2, h3, h4, h5, h6⟩ =>
  op_cat pins s σ H x y v u Q I rx ry ⟨l, b, xs, zs, h1, h2, h3, h4, h5, Newly.out h6⟩
def rRepN : R2 := fun x y H Q => ∃ l k xs, x = .ref l ∧ y = .int k ∧ H l = some (.lst xs) ∧ -(2 ^ 63) ≤ k ∧ k < 2 ^ 63 ∧ xs.length * k.toNat ≤ sizeLine ∧ Newly H (.lst (List.replicate k.toNat xs).flatten) Q
theorem op_repN : OpR X (binaryOp .Mult) rRepN := fun pins s σ H x y v u Q I rx ry ⟨l, k, xs, h1, h2, h3, h4, h5, h6, h7⟩ =>
  op_rep pins s σ H x y v u Q I rx ry ⟨l, k, xs, h1, h2, h3, h4, h5, h6, Newly.out h7⟩
def rSlLN (K : PySem.W.Frag) : V → Option Int → Option Int → Hp → VK → Prop := fun x lo hi H Q => ∃ a xs, x = .ref a ∧ SqL K H a xs ∧ Newly H (.lst (cutV xs lo hi)) Q
theorem sl_listN : L2.SlR X (rSlLN X.K) := fun pins s σ H x v vl vu lo hi sl Q I rx hs pl pu ⟨a, xs, h1, h2, h3⟩ =>
  sl_list pins s σ H x v vl vu lo hi sl Q I rx hs pl pu ⟨a, xs, h1, h2, Newly.out h3⟩
/-- a slice of a tuple that may be the whole: whatever tuple it is -/
def rSlTN (K : PySem.W.Frag) : V → Option Int → Option Int → Hp → VK → Prop := fun x lo hi H Q => ∃ a xs, x = .ref a ∧ SqT K H a xs ∧
  ∀ (p : Addr) (H' : Hp), Same H H' → SqT K H' p (cutV xs lo hi) → Q (.ref p) H'
theorem cut_all {xs : List V} {lo hi : Option Int} (h1 : HT.sIx xs.length 0 lo = 0) (h2 : HT.sIx xs.length xs.length hi = xs.length) : cutV xs lo hi = xs := by
  unfold cutV
  rw [h1, h2, List.drop_zero, Nat.sub_zero, List.take_of_length_le (Nat.le_refl _)]
theorem sl_tupN : L2.SlR X (rSlTN X.K) := fun pins s σ H x v vl vu lo hi sl Q I rx hs pl pu ⟨a, xs, h1, h2, h3⟩ =>
  sl_tupA pins s σ H x v vl vu lo hi sl Q I rx hs pl pu ⟨a, xs, h1, h2, fun ⟨z1, z2⟩ => h3 a H (fun _ _ z => z) (by rw [cut_all z1 z2]; exact h2), fun _ p hp => h3 p _ (same_new hp) (SqT.of upd_same)⟩
/-- t + u of tuples: whatever tuple it is -/
def rCatAN (K : PySem.W.Frag) : R2 := fun x y H Q => ∃ a b xs ys, x = .ref a ∧ y = .ref b ∧ SqT K H a xs ∧ SqT K H b ys ∧ xs.length + ys.length ≤ sizeLine ∧
  ∀ (p : Addr) (H' : Hp), Same H H' → SqT K H' p (xs ++ ys) → Q (.ref p) H'
theorem op_catAN : OpR X (binaryOp .Add) (rCatAN X.K) := fun pins s σ H x y v u Q I rx ry ⟨a, b, xs, ys, h1, h2, h3, h4, h5, h6⟩ =>
  op_catA pins s σ H x y v u Q I rx ry ⟨a, b, xs, ys, h1, h2, h3, h4, h5, fun z => h6 b H (fun _ _ e => e) (by rw [z]; exact h4), fun _ z => h6 a H (fun _ _ e => e) (by rw [z, List.append_nil]; exact h3),
    fun _ _ p hp => h6 p _ (same_new hp) (SqT.of upd_same)⟩
end

/-! ### further rules -/
section
variable {X : Cx}
theorem op_eqI : OpR X (compareOp .Eq) (rI0 fun i j => .bl (decide (i = j))) := by
  rintro pins s σ H x y v u Q I rx ry ⟨i, j, rfl, rfl, q⟩
  refine op_eq pins s σ H _ _ v u Q I rx ry ⟨rfl, ?_⟩
  have e : decide (V.int i = V.int j) = decide (i = j) := by
    by_cases h : i = j
    · rw [decide_eq_true h, decide_eq_true (by rw [h])]
    · rw [decide_eq_false h, decide_eq_false (fun z => h (V.int.inj z))]
  rw [e]; exact q
theorem op_neI : OpR X (compareOp .NotEq) (rI0 fun i j => .bl (!decide (i = j))) := by
  rintro pins s σ H x y v u Q I rx ry ⟨i, j, rfl, rfl, q⟩
  refine op_ne pins s σ H _ _ v u Q I rx ry ⟨rfl, ?_⟩
  have e : decide (V.int i = V.int j) = decide (i = j) := by
    by_cases h : i = j
    · rw [decide_eq_true h, decide_eq_true (by rw [h])]
    · rw [decide_eq_false h, decide_eq_false (fun z => h (V.int.inj z))]
  rw [e]; exact q
theorem pe_globR {x : Str} {a : Addr} {p : Pos} (hg : Gl X x) (hm : X.mg x = some (.ref a)) (hdb : (x == ("__debug__" : Str)) = false := by decide) : PE X (.Name x p) (tC (.ref a)) := pe_glob hg hm rfl hdb
/-- // by a divisor of either sign -/
def CDivA (_ j : Int) : Prop := j ≠ 0 ∧ j.natAbs.log2 < 9000
theorem op_fdivA : OpR X (binaryOp .FloorDiv) (rI CDivA fun i j => .int (i.fdiv j)) := opI fun _ _ _ _ _ _ _ hc q => floordiv_int hc.1 q (.inl (PyProof.noPylong_of_log2 hc.2))
/-- x * n of a text -/
theorem op_rep_str : OpR X (binaryOp .Mult) (fun x y H Q => ∃ z n, x = .str z ∧ y = .int n ∧ MulOk z n ∧ Q (.str (Txt.mul z n)) H) := by
  rintro pins s σ H x y v u Q I rx ry ⟨z, n, rfl, rfl, hok, q⟩
  obtain ⟨t, rfl⟩ := rx
  obtain ⟨t', rfl⟩ := ry
  exact SB.mul hok fun t2 k => ⟨.str _, H, I.tok _, ⟨_, rfl⟩, q⟩
/-- repr of any data -/
theorem call_repr_any (hg : X.A.guards = some []) (hu : X.A.units + 150 < cLine) : CallR X (.builtin "repr") (fun xs H Q =>
    ∃ x d, xs = [x] ∧ Dp X.K H x d ∧ d.showable = true ∧ SeqAt.shaped d = true ∧ d.shown.length ≤ sizeLine ∧ Q (.str d.shown) H) := by
  intro pins s σ H xs us Q I r h
  obtain ⟨x, d, rfl, hd, hs, hsh, hz, q⟩ := h
  obtain ⟨u, rfl, ru⟩ := vals1 r
  cases x with
  | ref a => exact call_repr_data hg hu pins s σ H [.ref a] [u] Q I (.cons ru .nil) ⟨a, d, rfl, hd, hs, hsh, hz, q⟩
  | non =>
    cases hd
    cases ru
    exact PySem.P.repr_of_none ⟨.str _, H, I.tok _, ⟨_, rfl⟩, q⟩
  | bl b =>
    cases hd
    cases ru
    exact PySem.P.repr_of_bool ⟨.str _, H, I.tok _, ⟨_, rfl⟩, q⟩
  | int i =>
    cases hd
    obtain ⟨t, rfl⟩ := ru
    exact PySem.P.repr_of_int (by simpa only [PyData.showable, decide_eq_true_eq] using hs) ⟨.str _, H, I.tok _, ⟨_, rfl⟩, q⟩
  | str z =>
    cases hd
    obtain ⟨t, rfl⟩ := ru
    exact PySem.P.repr_of_str ⟨.str _, H, I.tok _, ⟨_, rfl⟩, q⟩ hz
  | byt b => cases hd
  | flt b => cases hd
  | ty n => cases hd
end

/-- an own error is what its own class's clause takes -/
theorem exm_own {K : PySem.W.Frag} {C : Addr} (eB : PySem.W.subIn K (.ref C) (.type "BaseException") = some true) (hc : PySem.W.isClsIn K C = true) (ht : PySem.W.typeIn K (.ref C) = some (.type "type"))
    (hs : PySem.W.subIn K (.ref C) (.ref C) = some true) : PySem.W.exmOne K (.ref C) (.ref C) = some true := by
  have b1 : (PySem.W.subIn K (.ref C) (.type "BaseException") == some true) = true := by rw [eB]; rfl
  have b2 : ((PySem.W.clsIn K C).isSome && PySem.W.typeIn K (.ref C) == some (.type "type")) = true := by
    have q : (PySem.W.clsIn K C).isSome = true := hc
    rw [q, ht]; rfl
  unfold PySem.W.exmOne
  rw [if_pos b1]
  unfold PySem.W.kitCls
  show (if ((PySem.W.clsIn K C).isSome && PySem.W.typeIn K (.ref C) == some (.type "type")) = true then PySem.W.subIn K (.ref C) (.ref C) else none) = some true
  rw [if_pos b2]
  exact hs
abbrev dR (st : Stmt) (m : Str) (q : Str) (K : PySem.W.Frag) : Addr → FuncData → Prop := fun f fd => Fun K m q st f fd

/-! ### own exceptions whose __init__ stores its arguments -/
/-- the __init__ of such a class: self.f = .. for the names fn, in order -/
def spX (C : Addr) (fn : List Str) : Sp := fun vs H Q _ => ∃ (a : Addr) (ws : List V), vs = .ref a :: ws ∧ ws.length = fn.length ∧ H a = some (exo a C none) ∧
  ∀ d, H d = none → d ≠ a → Q .non (upd (upd H d (exd d (fn.zip ws).reverse)) a (exo a C (some d)))
structure ExcOk (P : Program) (w : World) (K : PySem.W.Frag) (mg : Str → Option Value) (base : Heap) (x : Str) (C : Addr) (fn ps : List Str) : Prop where
  T : OexC K C
  xf : XfC K C
  te : PySem.W.exmOne K (.ref C) (.ref C) = some true
  no : ∀ f ∈ fn, PySem.W.findIn K (.ref C) f = some none
  mgx : mg x = some (.ref C)
  ex : ∃ (fI : Addr) (fd : FuncData), PySem.W.findIn K (.ref C) "__init__" = some (some (.ref fI)) ∧ PySem.W.typeIn K (.ref fI) = some (.type "function") ∧
    Binds K fd ps [] ∧ FnOk P w K mg base CX0 1 fI fd ps (spX C fn)
/-- X(e, ..) of such a class, about to be raised -/
def tMkX (C : Addr) (fn : List Str) (ta : TA) : L2.St → Hp → XK → Prop := fun σ H Q => ta σ H fun vs H1 => vs.length = fn.length ∧ vs.length ≤ 1000 ∧
  ∀ d, H1 d = none → Q (.ref C) (some d) (upd H1 d (.xd (fn.zip vs).reverse))
theorem heap_back {H : Hp} {a d : Addr} {o1 o2 o3 o4 : HO} (ha : H a = none) (n : d ≠ a) : upd (del (upd (upd (upd H a o1) d o2) a o3) a) d o4 = upd H d o4 := by
  funext b
  by_cases hb : b = d
  · subst hb; rw [upd_same, upd_same]
  · rw [upd_ne hb, upd_ne hb]
    by_cases hba : b = a
    · subst hba; rw [del_same, ha]
    · rw [del_ne hba, upd_ne hba, upd_ne hb, upd_ne hba]
theorem tMkX_ok {C : Addr} {fn : List Str} {vs : List V} {H1 : Hp} {Q : XK} (l : vs.length = fn.length) (z : vs.length ≤ 1000)
    (h : ∀ d, H1 d = none → Q (.ref C) (some d) (upd H1 d (.xd (fn.zip vs).reverse))) :
    vs.length ≤ 1000 ∧ ∀ a, H1 a = none → spX C fn (.ref a :: (vs ++ [])) (upd H1 a (exo a C none))
      (fun v H2 => v = .non ∧ ∃ (d : Addr) (fs : List (Str × V)), H2 a = some (exo a C (some d)) ∧ H2 d = some (exd d fs) ∧ H1 d = none ∧ Q (.ref C) (some d) (upd (del H2 a) d (.xd fs))) (fun _ _ _ => False) := by
  refine ⟨z, fun a ha => ⟨a, vs, by rw [List.append_nil], l, upd_same, fun d hd n => ⟨rfl, d, (fn.zip vs).reverse, upd_same, ?_, ?_, ?_⟩⟩⟩
  · rw [upd_ne n, upd_same]
  · rw [upd_ne n] at hd; exact hd
  · rw [heap_back ha n]
    rw [upd_ne n] at hd
    exact h d hd
section
variable {X : Cx} {j : Nat} {C : Addr} {x : Str} {fn ps : List Str} {e : Expr} {es : List Expr} {ta : TA} {p pos pos2 : Pos} {W : WX}
theorem pmk_imp {t t' : L2.St → Hp → XK → Prop} (h : PMk X e t) (i : ∀ σ H Q, t' σ H Q → t σ H Q) : PMk X e t' := fun pins s σ H Q I z => h pins s σ H Q I (i σ H Q z)
theorem pa_mono {Q Q' : List V → Hp → Prop} {t : TA} (m : ∀ σ H (Q Q' : List V → Hp → Prop), (∀ vs H1, Q vs H1 → Q' vs H1) → t σ H Q → t σ H Q') {σ : L2.St} {H : Hp} (h : ∀ vs H1, Q vs H1 → Q' vs H1) (z : t σ H Q) : t σ H Q' := m σ H Q Q' h z
/-- an argument list's reading, weakened -/
def aCut (t : TA) : TA := fun σ H Q => ∃ R : List V → Hp → Prop, t σ H R ∧ ∀ vs H', R vs H' → Q vs H'
theorem pa_cut {es : List Expr} {t : TA} (h : PA X es t) : PA X es (aCut t) := ⟨fun pos pins s σ H Q I ⟨R, h1, h2⟩ =>
  thn (h.run pos pins s σ H R I h1) fun _ _ ⟨vs, H', I', r, q⟩ => ⟨vs, H', I', r, h2 vs H' q⟩⟩
theorem ExcOk.make (E : ExcOk X.prog X.w X.K X.mg X.base x C fn ps) (hG : Gl X x) (hr : Room j X.A) (ha : PA X (e :: es) ta) (hj : 2 ≤ j := by decide)
    (hdb : (x == ("__debug__" : Str)) = false := by decide) (he : starEach (e :: es) X.env = (false, eval e X.env) :: starEach es X.env := by rfl)
    (hpl : (backTo pos (starEach es X.env)).any (·.1) = false := by rfl) :
    PMk X (.Call (.Name x p) (e :: es) [] pos) (tMkX C fn ta) := by
  obtain ⟨fI, fd, iC, tI, b, G⟩ := E.ex
  refine pmk_imp (pmk_oex (CX := CX0) E.T iC tI G (hr.mono hj) b .nil pass0 hG E.mgx (pa_cut ha) hdb he hpl) ?_
  intro σ H Q h
  exact ⟨_, h, fun vs H1 ⟨l, z, q⟩ => tMkX_ok l z q⟩
theorem ExcOk.raise (E : ExcOk X.prog X.w X.K X.mg X.base x C fn ps) (hc : X.calm = true) (hG : Gl X x) (hr : Room j X.A) (tk : Takes X W) (ha : PA X (e :: es) ta) (hj : 2 ≤ j := by decide)
    (hdb : (x == ("__debug__" : Str)) = false := by decide) (he : starEach (e :: es) X.env = (false, eval e X.env) :: starEach es X.env := by rfl)
    (hpl : (backTo pos (starEach es X.env)).any (·.1) = false := by rfl) :
    PS X (.Raise (some (.Call (.Name x p) (e :: es) [] pos)) none pos2) (fun _ σ H => tMkX C fn ta σ H fun cls d H' => W cls d σ H') :=
  ps_raise hc tk (E.make hG hr ha hj hdb he hpl)
end
/-! ### within a comprehension's block -/
section
variable {X : Cx} {s : Shared} {H : Hp} {sc : Scope} {env : Env} {fp : List Addr}
theorem sl_listNB : L2.SlR (X.blk s H sc env fp) (rSlLN X.K) := sl_listN
theorem sl_tupNB : L2.SlR (X.blk s H sc env fp) (rSlTN X.K) := sl_tupN
theorem op_catANB : OpR (X.blk s H sc env fp) (binaryOp .Add) (rCatAN X.K) := op_catAN
end
theorem mulok_small {x : Str} {n : Int} (h0 : -1000 ≤ n) (h2 : n ≤ 1000) (hl : x.length ≤ 1000) : MulOk x n := by
  refine ⟨?_, fun h1 h3 z => ?_, fun h1 h3 => ?_⟩
  · rw [Bool.or_eq_false_iff]
    exact ⟨decide_eq_false (by omega), decide_eq_false (by omega)⟩
  · have q : (2 ^ 63 - 1) / n ≥ 1000 := by
      have : 1000 * n ≤ 2 ^ 63 - 1 := by omega
      exact (Int.le_ediv_iff_mul_le (by omega)).mpr this
    omega
  · have q : x.length * n.toNat ≤ 1000 * 1000 := Nat.mul_le_mul hl (by omega)
    have e : sizeLine ≥ 1000 * 1000 := by decide
    exact decide_eq_false (by omega)
end Lay

set_option Elab.async false
set_option linter.all false
set_option maxRecDepth 100000
set_option maxHeartbeats 2000000
namespace Rat0
open PySem L2 Lay
/-! ### ratios in least terms, plain -/
/-- what parts both: its sign is the lower one's -/
def part (a b : Int) : Int := if b < 0 then -(Nat.gcd a.natAbs b.natAbs : Int) else (Nat.gcd a.natAbs b.natAbs : Int)
def lTop (a b : Int) : Int := a.fdiv (part a b)
def lBel (a b : Int) : Int := b.fdiv (part a b)
theorem gcd_pos {a b : Int} (h : b ≠ 0) : 0 < Nat.gcd a.natAbs b.natAbs := Nat.gcd_pos_of_pos_right _ (by omega)
theorem part_ne {a b : Int} (h : b ≠ 0) : part a b ≠ 0 := by
  have := gcd_pos (a := a) h
  unfold part
  split <;> omega
theorem part_dvd1 (a b : Int) : part a b ∣ a := by
  unfold part
  have h : (Nat.gcd a.natAbs b.natAbs : Int) ∣ a := Int.natAbs_dvd_natAbs.mp (by rw [Int.natAbs_natCast]; exact Nat.gcd_dvd_left _ _)
  split
  · exact Int.neg_dvd.mpr h
  · exact h
theorem part_dvd2 (a b : Int) : part a b ∣ b := by
  unfold part
  have h : (Nat.gcd a.natAbs b.natAbs : Int) ∣ b := Int.natAbs_dvd_natAbs.mp (by rw [Int.natAbs_natCast]; exact Nat.gcd_dvd_right _ _)
  split
  · exact Int.neg_dvd.mpr h
  · exact h
theorem lTop_mul {a b : Int} (h : b ≠ 0) : lTop a b * part a b = a := Int.fdiv_mul_cancel (part_dvd1 a b)
theorem lBel_mul {a b : Int} (h : b ≠ 0) : lBel a b * part a b = b := Int.fdiv_mul_cancel (part_dvd2 a b)
theorem lBel_pos {a b : Int} (h : b ≠ 0) : 0 < lBel a b := by
  have e := lBel_mul (a := a) h
  have g := gcd_pos (a := a) h
  have hp : (b < 0 → part a b < 0) ∧ (0 < b → 0 < part a b) := by
    unfold part
    constructor
    · intro hb; rw [if_pos hb]; omega
    · intro hb; rw [if_neg (by omega)]; omega
  rcases Int.lt_trichotomy b 0 with hb | hb | hb
  · have p := hp.1 hb
    rcases Int.lt_trichotomy (lBel a b) 0 with q | q | q
    · have := Int.mul_pos_of_neg_of_neg q p; omega
    · rw [q, Int.zero_mul] at e; omega
    · exact q
  · exact absurd hb h
  · have p := hp.2 hb
    rcases Int.lt_trichotomy (lBel a b) 0 with q | q | q
    · have := Int.mul_neg_of_neg_of_pos q p; omega
    · rw [q, Int.zero_mul] at e; omega
    · exact q
theorem abs_le_of_mul {t p a : Int} (h : t * p = a) (hp : p ≠ 0) : t.natAbs ≤ a.natAbs := by
  have e : t.natAbs * p.natAbs = a.natAbs := by rw [← Int.natAbs_mul, h]
  have hp' : 1 ≤ p.natAbs := by omega
  calc t.natAbs = t.natAbs * 1 := (Nat.mul_one _).symm
    _ ≤ t.natAbs * p.natAbs := Nat.mul_le_mul_left _ hp'
    _ = a.natAbs := e
theorem lTop_le {a b : Int} (h : b ≠ 0) : (lTop a b).natAbs ≤ a.natAbs := abs_le_of_mul (lTop_mul h) (part_ne h)
theorem lBel_le {a b : Int} (h : b ≠ 0) : (lBel a b).natAbs ≤ b.natAbs := abs_le_of_mul (lBel_mul h) (part_ne h)
theorem part_le {a b : Int} (h : b ≠ 0) : (part a b).natAbs ≤ b.natAbs := by
  have q : Nat.gcd a.natAbs b.natAbs ≤ b.natAbs := Nat.gcd_le_right _ (by omega)
  unfold part
  split <;> omega
end Rat0

set_option Elab.async false
set_option linter.all false
set_option maxRecDepth 100000
set_option maxHeartbeats 2000000
namespace K02
open PySem L2 Lay RZ SkE
def top (i : Nat) : Stmt := PySem.Challenge.pw_gridplaces_k02_ratios_reckoned.main.body.getD i (.Pass ⟨0, 0, 0, 0⟩)
/-! ### reading steps -/
local macro_rules | `(tactic| walk_at "side") => `(tactic| first | rfl | decide | exact ⟨by decide, by decide, by decide⟩ | exact ⟨by omega, by omega, by decide⟩ | (unfold CMulW; decide +kernel) | assumption | omega | exact Nat.le_of_ble_eq_true rfl | (show (0 : Int) < _; first | assumption | decide | omega) | exact Or.inl ⟨by omega, by omega⟩ | exact Or.inr ⟨by omega, by omega⟩ | exact ⟨by omega, by decide⟩ | exact Or.inr ⟨by (split <;> omega), by (split <;> omega)⟩)
local macro_rules | `(tactic| walk_at "at") => `(tactic| first | rfl | assumption)
local macro_rules | `(tactic| walk_at "rd1") => `(tactic| first
  | (refine ⟨_, rfl, ?_⟩)
  | (refine ⟨_, _, rfl, rfl, ?_⟩)
  | (refine ⟨_, _, _, _, rfl, rfl, SqL.of (by assumption), (by walk_at "at"), ?_⟩)
  | (refine ⟨_, _, _, _, rfl, rfl, SqT.of (by assumption), (by walk_at "at"), ?_⟩)
  | (refine ⟨_, _, _, _, rfl, rfl, (by assumption), (by walk_at "at"), ?_⟩)
  | (refine ⟨_, _, rfl, SqT.of upd_same, rfl, ?_⟩)
  | (refine ⟨_, _, rfl, Or.inl (by first | assumption | exact SqL.of (by assumption)), ?_⟩)
  | (refine ⟨_, _, rfl, Or.inr (by first | assumption | exact SqT.of (by assumption)), ?_⟩)
  | (refine ⟨_, _, _, _, _, rfl, (by assumption), (by exact Own.cl (by assumption)), (by exact Own.no (by assumption) _ (by simp)), rfl, ?_⟩)
  | (refine ⟨_, _, _, rfl, (by assumption), rfl, ?_⟩)
  | (refine ⟨_, _, rfl, ?_⟩)
  | (refine ⟨_, _, _, rfl, ?_⟩)
  | (refine Or.inl ⟨_, rfl, ?_⟩)
  | (refine Or.inr ⟨_, rfl, ?_⟩)
  | (refine And.intro (by walk_at "side") ?_))
local macro_rules | `(tactic| walk_at "rd") => `(tactic| repeat walk_at "rd1")

structure T02 (mg : Str → Option Value) : Prop where
  b_len : mg "len" = none
  b_abs : mg "abs" = none
  b_range : mg "range" = none
  b_int : mg "int" = none
  b_bool : mg "bool" = none
  b_repr : mg "repr" = none
  b_isinstance : mg "isinstance" = none
/-! ### the pot -/
def PotAt (H : Hp) (a : Addr) (c : Int) : Prop := ∃ z0 z1 z2 : Int, H a = some (.lst [.int z0, .int z1, .int z2]) ∧ 0 ≤ z0 ∧ 0 ≤ z1 ∧ z1 < 2305843009213693951 ∧ 0 ≤ z2 ∧ z2 ≤ c
theorem PotAt.keep {H H' : Hp} {a : Addr} {c : Int} (h : PotAt H a c) (e : ∀ o, H a = some o → H' a = some o) : PotAt H' a c :=
  let ⟨z0, z1, z2, h1, h2⟩ := h
  ⟨z0, z1, z2, e _ h1, h2⟩
theorem PotAt.mono {H : Hp} {a : Addr} {c d : Int} (h : PotAt H a c) (e : c ≤ d) : PotAt H a d :=
  let ⟨z0, z1, z2, h1, h2, h3, h4, h5, h6⟩ := h
  ⟨z0, z1, z2, h1, h2, h3, h4, h5, by omega⟩
theorem PotAt.lst {H : Hp} {a : Addr} {c : Int} (h : PotAt H a c) : ∃ xs, H a = some (.lst xs) := let ⟨_, _, _, h1, _⟩ := h; ⟨_, h1⟩
theorem PotAt.set {H : Hp} {a p : Addr} {o : HO} {c : Int} (h : PotAt H a c) (e : a ≠ p) : PotAt (upd H p o) a c := h.keep fun o q => by rw [upd_ne e]; exact q
theorem PotAt.ne {H : Hp} {a p : Addr} {c : Int} (h : PotAt H a c) (e : H p = none) : a ≠ p := let ⟨_, q⟩ := h.lst; ne_of_none q e
theorem PotAt.new {H : Hp} {a p : Addr} {o : HO} {c : Int} (h : PotAt H a c) (e : H p = none) : PotAt (upd H p o) a c := h.set (h.ne e)
theorem PotAt.same {H H' : Hp} {a : Addr} {c : Int} (h : PotAt H a c) (e : Same H H') : PotAt H' a c := h.keep fun o q => e _ _ q
theorem PotAt.notTup {H : Hp} {a b : Addr} {c : Int} {xs : List V} (h : PotAt H a c) (e : H b = some (.tup xs)) : b ≠ a := let ⟨_, q⟩ := h.lst; ne_of e q (by intro z; cases z)
theorem PotAt.notIns {H : Hp} {a b C dx : Addr} {c : Int} {xs : List (Str × V)} (h : PotAt H a c) (e : H b = some (.ins C dx xs)) : b ≠ a := let ⟨_, q⟩ := h.lst; ne_of e q (by intro z; cases z)
@[irreducible] def spDraw : Sp := fun vs H Q _ => ∃ (a : Addr) (many c : Int), vs = [.ref a, .int many] ∧ PotAt H a c ∧ c ≤ 1000000 ∧ 0 < many ∧ many < 2 ^ 200 ∧
  ∀ (H' : Hp) (d : Int), But [a] H H' → PotAt H' a (c + 1) → 0 ≤ d → d < many → Q (.int d) H'
theorem use_draw {H : Hp} {Q : VK} {E : XK} {a : Addr} (many c : Int) (hP : PotAt H a c) (hc : c ≤ 1000000) (h0 : 0 < many) (h1 : many < 2 ^ 200)
    (k : ∀ (H' : Hp) (d : Int), But [a] H H' → PotAt H' a (c + 1) → 0 ≤ d → d < many → Q (.int d) H') : spDraw ([.ref a, .int many] ++ []) H Q E := by
  unfold spDraw
  exact ⟨a, many, c, rfl, hP, hc, h0, h1, k⟩
@[irreducible] def spBegin (K : PySem.W.Frag) : Sp := fun vs H Q _ => ∃ (a : Addr) (ns : List Int) (k : Nat), vs = [.ref a, .int (k : Int)] ∧ SqL K H a (ns.map V.int) ∧ k ≤ 100 ∧
  ∀ (H' : Hp) (p : Addr), Same H H' → H p = none → PotAt H' p 0 → Q (.ref p) H'
theorem use_begin {K : PySem.W.Frag} {H : Hp} {Q : VK} {E : XK} {a : Addr} {j : Int} (ns : List Int) (k : Nat) (hj : j = (k : Int)) (hS : SqL K H a (ns.map V.int)) (hk : k ≤ 100)
    (kk : ∀ (H' : Hp) (p : Addr), Same H H' → H p = none → PotAt H' p 0 → Q (.ref p) H') : spBegin K ([.ref a, .int j] ++ []) H Q E := by
  subst hj
  unfold spBegin
  exact ⟨a, ns, k, rfl, hS, hk, kk⟩
section
variable {P : Program} {w : World} {K : PySem.W.Frag} {mg : Str → Option Value} {base : Heap} {f : Addr} {fd : FuncData}
abbrev s_draw : Stmt := (top 8)
abbrev draw.N : List Str := ["_law_pot", "_law_many", "_law_digit", "_law_go", "_law_mixed"]
abbrev draw.ps : List Str := ["_law_pot", "_law_many"]
theorem sc_draw : FnScope draw.N draw.ps (defScope s_draw) := ⟨rfl, rfl, rfl, by decide +kernel, rfl, by decide +kernel, by decide +kernel⟩
theorem ok_draw (F : Fun K "_law_draw" "_law_draw" s_draw f fd) : FnG P w K mg base CX0 1 f fd draw.ps spDraw := by
  refine gbody F sc_draw (fun vs H Q E h => ?_) (fun cdv A outer s H vs Q E hr hg h => ?_)
  · unfold spDraw at h
    obtain ⟨a, many, c, rfl, _⟩ := h
    rfl
  · unfold spDraw at h
    obtain ⟨a, many, c, rfl, ⟨z0, z1, z2, hL, h0, h1, h1', h2, h2'⟩, hc, hm, hm', k⟩ := h
    refine ⟨_, (pss_cons (ps_if (pt_cmpR op_gt (pe_ix ix_list (pv 0) pe_int (fun _ _ => rfl)) pe_int (nomark _)) (pss_cons (ps_set (i := 2) sc_draw.nd rfl (Or.inl rfl) (pe_op op_mod (pe_ix ix_list (pv 0) pe_int (fun _ _ => rfl)) (pv 1)))
      (pss_cons (ps_asg (pe_op op_fdivW (pe_ix ix_list (pv 0) pe_int (fun _ _ => rfl)) (pv 1)) (pg_sub (pv 0) pe_int set_list))
      (pss_one (ps_ret (pv 2))))) pss_nil)
      (pss_cons (ps_asg (pe_op op_add (pe_ix ix_list (pv 0) pe_int (fun _ _ => rfl)) pe_int) (pg_sub (pv 0) pe_int set_list))
      (pss_cons (ps_set (i := 3) sc_draw.nd rfl (Or.inl rfl) (pe_ix ix_list (pv 0) pe_int (fun _ _ => rfl)))
      (pss_cons (ps_set (i := 4) sc_draw.nd rfl (Or.inl rfl) (pe_op op_mod (pe_op op_mul (pe_op op_add (pe_ix ix_list (pv 0) pe_int (fun _ _ => rfl)) (pe_op op_mul pe_int (pv 3))) (pe_op op_add (pe_op op_mul (pe_op op_mul (pv 3) (pv 3)) pe_int) pe_int)) pe_int))
      (pss_cons (ps_set (i := 4) sc_draw.nd rfl (Or.inl rfl) (pe_op op_mod (pe_op op_mul (pv 4) (pe_op op_add (pe_op op_mod (pv 4) pe_int) (pv 3))) pe_int))
      (pss_one (ps_ret (pe_op op_mod (pe_op op_fdivW (pv 4) pe_int) (pv 1))))))))), ?_⟩
    walk_at "rd"
    refine iteD (fun hp => ?_) (fun hp => ?_)
    · walk_at "rd"
      refine ⟨wide_div (b := 200) hm (by omega) (by decide) (by decide), ?_⟩
      walk_at "rd"
      refine k _ _ ((But.refl _ H).set (by simp)) ⟨_, z1, z2, upd_same, Int.ediv_nonneg h0 (by omega), h1, h1', h2, by omega⟩ (Int.emod_nonneg _ (by omega)) (Int.emod_lt_of_pos _ hm)
    · have hL2 : (upd H a (.lst [.int z0, .int z1, .int (z2 + 1)])) a = some (.lst [.int z0, .int z1, .int (z2 + 1)]) := upd_same
      walk_at "rd"
      refine k _ _ ((But.refl _ H).set (by simp)) ⟨z0, z1, z2 + 1, upd_same, h0, h1, h1', by omega, by omega⟩ (Int.emod_nonneg _ (by omega)) (Int.emod_lt_of_pos _ hm)
abbrev s_begin : Stmt := (top 7)
abbrev begin.N : List Str := ["_law_script", "_law_k", "_law_cell", "_law_seed", "_law_one"]
abbrev begin.ps : List Str := ["_law_script", "_law_k"]
theorem sc_begin : FnScope begin.N begin.ps (defScope s_begin) := ⟨rfl, rfl, rfl, by decide +kernel, rfl, by decide +kernel, by decide +kernel⟩
theorem ok_begin (F : Fun K "_law_begin" "_law_begin" s_begin f fd) (T : T02 mg) : FnG P w K mg base CX0 1 f fd begin.ps (spBegin K) := by
  refine gbody F sc_begin (fun vs H Q E h => ?_) (fun cdv A outer s H vs Q E hr hg h => ?_)
  · unfold spBegin at h
    obtain ⟨a, ns, k, rfl, _⟩ := h
    rfl
  · unfold spBegin at h
    obtain ⟨a, ns, k, rfl, hS, hk, kk⟩ := h
    refine ⟨_, (pss_cons (ps_par (i := 2) (j := 3) rfl sc_begin.nd rfl rfl (by decide) rfl rfl (pa_cons (pe_cut (pe_ifExp (pt_cmpR op_lt (pv 1) (pe_callB call_len_seq (by rfl) T.b_len PySem.boot_len (pa_cons (pv 0) pa_nil)) (nomark _)) (pe_ix ix_list (pv 0) (pv 1) (fun _ _ => rfl)) pe_int)) (pa_cons (pe_op op_add (pe_op op_mul pe_int (pv 1)) pe_int) pa_nil)) (by rfl))
      (pss_cons (ps_for PassesOwn.never rfl (pi_list (pe_op op_catN (pe_lstN (pa_cons (pv 2) pa_nil)) (pe_slice sl_listN (pv 0) po_none (po_some pe_int)))) (pg_name (i := 4) sc_begin.nd rfl (Or.inl rfl)) (pss_one (ps_set (i := 3) sc_begin.nd rfl (Or.inl rfl) (pe_op op_mod (pe_op op_add (pe_op op_add (pe_op op_mul (pv 3) pe_int) (pe_op op_mul pe_int (pe_callB call_abs (by rfl) T.b_abs (by decide +kernel) (pa_cons (pv 4) pa_nil)))) (pe_callTy call_int1 (by rfl) T.b_int (by decide +kernel) (pa_cons (pe_cmpR op_lt (pv 4) pe_int (nomark _)) pa_nil))) pe_int))))
      (pss_one (ps_ret (pe_lstN (pa_cons (pe_cut (pe_ifExp (pt_cmpR op_ge (pe_callB call_abs (by rfl) T.b_abs (by decide +kernel) (pa_cons (pv 2) pa_nil)) (pe_op op_pow pe_int pe_int) (nomark _)) (pe_callB call_abs (by rfl) T.b_abs (by decide +kernel) (pa_cons (pv 2) pa_nil)) pe_int)) (pa_cons (pv 3) (pa_cons pe_int pa_nil)))))))), ?_⟩
    refine ⟨fun v H' => H' = H ∧ ∃ c : Int, v = .int c, ?_, ?_⟩
    · walk_at "rd"
      refine iteD (fun hk => ?_) (fun _ => ?_)
      · have hk2 : k < (ns.map V.int).length := by omega
        have e : (ns.map V.int)[k]? = some (V.int ns[k]!) := by
          rw [List.length_map] at hk2
          rw [List.getElem?_map, List.getElem?_eq_getElem hk2, Option.map_some, getElem!_pos ns k hk2]
        refine ⟨_, rfl, _, rfl, a, _, _, _, rfl, rfl, hS, at_of rfl e, rfl, _, rfl⟩
      · exact ⟨rfl, _, rfl⟩
    · rintro v H' ⟨rfl, c, rfl⟩
      walk_at "rd"
      intro l H1 hl s1 hl1
      walk_at "rd"
      refine ⟨a, _, rfl, But.sq (But.of [] s1) (by simp) hS, fun q H2 hq s2 hq2 => ?_⟩
      rw [show (60 : Int) = ((60 : Nat) : Int) from rfl] at hq2
      rw [cut_ints] at hq2
      refine ⟨l, q, [.int c], (ns.take 60).map V.int, rfl, rfl, s2 _ _ hl1, hq2, ?_, fun r H3 hr s3 hr2 => ?_⟩
      · rw [List.length_map, List.length_take]; exact Nat.le_trans (by show 1 + _ ≤ 61; omega) (by decide)
      · have sm : Same H' H3 := fun b o e => s3 _ _ (s2 _ _ (s1 _ _ e))
        replace hr2 : H3 r = some (.lst ((c :: ns.take 60).map V.int)) := hr2
        refine ⟨r, rfl, ⟨_, SqL.of hr2⟩, for_list (K := K) (a := r) (xs := (c :: ns.take 60).map V.int) (fun i σ H2 => Box (∃ (z : Int) (v : Option V), σ = [some (.ref a), some (.int k), some (.int c), some (.int z), v] ∧ 0 ≤ z ∧ z < 2305843009213693951 ∧ Same H' H2 ∧ H2 r = some (.lst ((c :: ns.take 60).map V.int))))
          ?_ (fun i σ H2 _ ⟨_, _, _, _, _, _, _, hq'⟩ => SqL.of hq') ?_ ?_⟩
        · exact .of ⟨_, none, rfl, by omega, by omega, sm, hr2⟩
        · rintro i y σ H2 hi ⟨_, z, v, rfl, h0, h1, sm, hq'⟩
          obtain ⟨x, hx, rfl⟩ := mapI_get hi
          walk_at "rd"
          exact .of ⟨_, some (.int x), rfl, by omega, by omega, sm, hq'⟩
        · rintro σ H2 ⟨_, z, v, rfl, h0, h1, sm, hq'⟩
          walk_at "rd"
          refine ⟨fun v H' => H' = H2 ∧ ∃ d : Int, v = .int d ∧ 0 ≤ d, ?_, ?_⟩
          · walk_at "rd"
            refine iteD (fun _ => ?_) (fun _ => ?_)
            · walk_at "rd"
              split <;> omega
            · exact ⟨rfl, _, rfl, Int.le_refl _⟩
          · rintro v H5 ⟨rfl, d, rfl, hd⟩
            walk_at "rd"
            intro p H6 hp s6 hp6
            refine kk _ p (fun b o e => s6 _ _ (sm _ _ e)) (Same.free sm hp) ⟨d, z, 0, hp6, hd, h0, h1, Int.le_refl _, Int.le_refl _⟩
end

/-! ### a number drawn -/
@[irreducible] def spNumber : Sp := fun vs H Q _ => ∃ (a : Addr) (c : Int), vs = [.ref a] ∧ PotAt H a c ∧ c ≤ 900000 ∧
  ∀ (H' : Hp) (z : Int), But [a] H H' → PotAt H' a (c + 9) → z.natAbs ≤ 10 ^ 40 → Q (.int z) H'
theorem use_number {H : Hp} {Q : VK} {E : XK} {a : Addr} (c : Int) (hP : PotAt H a c) (hc : c ≤ 900000)
    (k : ∀ (H' : Hp) (z : Int), But [a] H H' → PotAt H' a (c + 9) → z.natAbs ≤ 10 ^ 40 → Q (.int z) H') : spNumber ([.ref a] ++ []) H Q E := by
  unfold spNumber
  exact ⟨a, c, rfl, hP, hc, k⟩
section
variable {P : Program} {w : World} {K : PySem.W.Frag} {mg : Str → Option Value} {base : Heap} {f : Addr} {fd : FuncData}
abbrev s_number : Stmt := (top 9)
abbrev number.N : List Str := ["_law_pot", "_law_way", "_law_big", "_law_some", "_law_number_here"]
abbrev number.ps : List Str := ["_law_pot"]
theorem sc_number : FnScope number.N number.ps (defScope s_number) := ⟨rfl, rfl, rfl, by decide +kernel, rfl, by decide +kernel, by decide +kernel⟩
theorem ok_number (F : Fun K "_law_number" "_law_number" s_number f fd) (T : T02 mg) (C_draw : Callee P w K mg base CX0 1 "_law_draw" s_draw draw.ps spDraw) : FnG P w K mg base CX0 2 f fd number.ps spNumber := by
  refine gbody F sc_number (fun vs H Q E h => ?_) (fun cdv A outer s H vs Q E hr hg h => ?_)
  · unfold spNumber at h
    obtain ⟨a, c, rfl, _⟩ := h
    rfl
  · unfold spNumber at h
    obtain ⟨a, c, rfl, hP, hc, kk⟩ := h
    refine ⟨_, (pss_cons (ps_set (i := 1) sc_number.nd rfl (Or.inl rfl) (C_draw.call rfl hr hg (pa_cons (pv 0) (pa_cons pe_int pa_nil))))
      (pss_cons (ps_set (i := 2) sc_number.nd rfl (Or.inl rfl) (pe_op op_add (pe_op op_mul (C_draw.call rfl hr hg (pa_cons (pv 0) (pa_cons (pe_op op_pow pe_int pe_int) pa_nil))) (pe_cut (pe_callTy call_int_str (by rfl) T.b_int (by decide +kernel) (pa_cons (pe_op op_add_str pe_str (pe_op op_rep_str pe_str (pe_ix ix_list (pe_lstN (pa_cons pe_int (pa_cons pe_int (pa_cons pe_int (pa_cons pe_int (pa_cons pe_int pa_nil)))))) (C_draw.call rfl hr hg (pa_cons (pv 0) (pa_cons pe_int pa_nil))) (fun _ _ => rfl)))) pa_nil)))) (C_draw.call rfl hr hg (pa_cons (pv 0) (pa_cons pe_int pa_nil)))))
      (pss_cons (ps_set (i := 3) sc_number.nd rfl (Or.inl rfl) (pe_lstN (pa_cons pe_int (pa_cons pe_int (pa_cons pe_int (pa_cons (C_draw.call rfl hr hg (pa_cons (pv 0) (pa_cons pe_int pa_nil))) (pa_cons (pe_op op_sub (pe_op op_sub (pe_op op_pow pe_int pe_int) pe_int) (C_draw.call rfl hr hg (pa_cons (pv 0) (pa_cons pe_int pa_nil)))) (pa_cons (pv 2) (pa_cons (pe_op op_shl pe_int (C_draw.call rfl hr hg (pa_cons (pv 0) (pa_cons pe_int pa_nil)))) pa_nil)))))))))
      (pss_cons (ps_set (i := 4) sc_number.nd rfl (Or.inl rfl) (pe_ix ix_list (pe_op op_catN (pv 3) (pe_lstN (pa_cons (pe_op op_fdivW (pe_op op_pow pe_int pe_int) (pe_op op_add pe_int (C_draw.call rfl hr hg (pa_cons (pv 0) (pa_cons pe_int pa_nil))))) pa_nil))) (pv 1) (fun _ _ => rfl)))
      (pss_one (ps_ret (pe_cut (pe_ifExp (pt_cmpR op_eqI (C_draw.call rfl hr hg (pa_cons (pv 0) (pa_cons pe_int pa_nil))) pe_int (nomark _)) (pv 4) (pe_op op_sub pe_int (pv 4)))))))))), ?_⟩
    walk_at "rd"
    refine use_draw 8 c hP (by omega) (by decide) (by decide) (fun H1 way b1 P1 w0 w1 => ?_)
    walk_at "rd"
    refine use_draw (10 ^ Int.toNat 10) (c + 1) P1 (by omega) (by decide) (by decide) (fun H2 d2 b2 P2 d20 d21 => ?_)
    refine ⟨fun v H' => ∃ z : Int, v = .int z ∧ 0 ≤ z ∧ z ≤ 10 ^ 29 ∧ But [a] H H' ∧ PotAt H' a (c + 3), ?_, ?_⟩
    · walk_at "rd"
      intro l H2' hl s2 hl2
      walk_at "rd"
      refine use_draw 5 (c + 1 + 1) (P2.same s2) (by omega) (by decide) (by decide) (fun H3 d3 b3 P3 d30 d31 => ?_)
      have hl3 := b3 _ _ (nin1 (P2.ne hl).symm) hl2
      have B3 : But [a] H H3 := ((b1.trans b2).trans (But.of _ s2)).trans b3
      obtain ⟨v, hv, hmem⟩ := atI_mem (xs := [V.int 0, .int 0, .int 3, .int 15, .int 29]) d30 d31
      refine ⟨l, _, _, _, rfl, rfl, SqL.of hl3, hv, ?_⟩
      have P3' := P3.mono (by omega : c + 1 + 1 + 1 ≤ c + 3)
      simp only [List.mem_cons, List.not_mem_nil, or_false] at hmem
      rcases hmem with rfl | rfl | rfl | rfl | rfl
      · refine ⟨_, _, rfl, rfl, mulok_small (by decide) (by decide) (by decide +kernel), ?_⟩
        refine ⟨_, _, rfl, rfl, by decide +kernel, ?_⟩
        exact ⟨_, 10 ^ 0, rfl, by decide +kernel, by decide +kernel, _, rfl, by decide, by decide, B3, P3'⟩
      · refine ⟨_, _, rfl, rfl, mulok_small (by decide) (by decide) (by decide +kernel), ?_⟩
        refine ⟨_, _, rfl, rfl, by decide +kernel, ?_⟩
        exact ⟨_, 10 ^ 0, rfl, by decide +kernel, by decide +kernel, _, rfl, by decide, by decide, B3, P3'⟩
      · refine ⟨_, _, rfl, rfl, mulok_small (by decide) (by decide) (by decide +kernel), ?_⟩
        refine ⟨_, _, rfl, rfl, by decide +kernel, ?_⟩
        exact ⟨_, 10 ^ 3, rfl, by decide +kernel, by decide +kernel, _, rfl, by decide, by decide, B3, P3'⟩
      · refine ⟨_, _, rfl, rfl, mulok_small (by decide) (by decide) (by decide +kernel), ?_⟩
        refine ⟨_, _, rfl, rfl, by decide +kernel, ?_⟩
        exact ⟨_, 10 ^ 15, rfl, by decide +kernel, by decide +kernel, _, rfl, by decide, by decide, B3, P3'⟩
      · refine ⟨_, _, rfl, rfl, mulok_small (by decide) (by decide) (by decide +kernel), ?_⟩
        refine ⟨_, _, rfl, rfl, by decide +kernel, ?_⟩
        exact ⟨_, 10 ^ 29, rfl, by decide +kernel, by decide +kernel, _, rfl, by decide, by decide, B3, P3'⟩
    · rintro v H3 ⟨z, rfl, z0, z1, B3, P3⟩
      have d21' : d2 ≤ 10 ^ 10 - 1 := by
        have e : ((10 : Int) ^ Int.toNat 10) = 10 ^ 10 := rfl
        omega
      have m1 : 0 ≤ d2 * z := Int.mul_nonneg d20 z0
      have m2 : d2 * z ≤ (10 ^ 10 - 1) * 10 ^ 29 := Int.mul_le_mul d21' z1 z0 (by decide)
      have e3 : ((10 : Int) ^ 10 - 1) * 10 ^ 29 = 999999999900000000000000000000000000000 := by decide
      rw [e3] at m2
      walk_at "rd"
      refine use_draw 100 (c + 3) P3 (by omega) (by decide) (by decide) (fun H4 d4 b4 P4 d40 d41 => ?_)
      have B4 := B3.trans b4
      walk_at "rd"
      refine use_draw 60 (c + 3 + 1) P4 (by omega) (by decide) (by decide) (fun H5 d5 b5 P5 d50 d51 => ?_)
      walk_at "rd"
      refine use_draw 9 (c + 3 + 1 + 1) P5 (by omega) (by decide) (by decide) (fun H6 d6 b6 P6 d60 d61 => ?_)
      walk_at "rd"
      refine use_draw 120 (c + 3 + 1 + 1 + 1) P6 (by omega) (by decide) (by decide) (fun H7 d7 b7 P7 d70 d71 => ?_)
      have B7 := ((B4.trans b5).trans b6).trans b7
      walk_at "rd"
      intro l H8 hl s8 hl8
      have P8 := P7.same s8
      have B8 := B7.trans (But.of _ s8)
      have nla : l ≠ a := (P7.ne hl).symm
      walk_at "rd"
      refine use_draw 4 (c + 3 + 1 + 1 + 1 + 1) P8 (by omega) (by decide) (by decide) (fun H9 d9 b9 P9 d90 d91 => ?_)
      have hl9 := b9 _ _ (nin1 nla) hl8
      have B9 := B8.trans b9
      walk_at "rd"
      refine ⟨wide_div (b := 20) (by omega) (by omega) (by decide) (by decide), ?_⟩
      walk_at "rd"
      intro r H9' hrr s9 hr9
      refine ⟨l, r, _, _, rfl, rfl, s9 _ _ hl9, hr9, Nat.le_of_ble_eq_true rfl, fun p H10 hp s10 hp10 => ?_⟩
      have q1 : ((3 : Int) ^ Int.toNat 60 / (1 + d9)).natAbs ≤ 10 ^ 40 := by
        have h1 : 0 ≤ (3 : Int) ^ Int.toNat 60 / (1 + d9) := Int.ediv_nonneg (by decide) (by omega)
        have h2 : (3 : Int) ^ Int.toNat 60 / (1 + d9) ≤ 3 ^ Int.toNat 60 := Int.ediv_le_self _ (by decide)
        have h3 : (3 : Int) ^ Int.toNat 60 ≤ 10 ^ 40 := by decide
        omega
      have q2 : ((1 : Int) * 2 ^ d7.toNat).natAbs ≤ 10 ^ 40 := by
        rw [Int.one_mul]
        have h1 : (2 : Nat) ^ d7.toNat ≤ 2 ^ 120 := Nat.pow_le_pow_right (by decide) (by omega)
        have h2 : ((2 : Int) ^ d7.toNat).natAbs = 2 ^ d7.toNat := by rw [Int.natAbs_pow]; rfl
        rw [h2]
        exact Nat.le_trans h1 (by decide)
      have P10 := (P9.same s9).same s10
      have B10 := (B9.trans (But.of _ s9)).trans (But.of _ s10)
      obtain ⟨v, hv, hmem⟩ := atI_mem (xs := [V.int 0, .int 1, .int 6, .int d5, .int (10 ^ Int.toNat 40 - 9 - d6), .int (d2 * z + d4), .int (1 * 2 ^ d7.toNat)] ++ [V.int (3 ^ Int.toNat 60 / (1 + d9))]) w0 w1
      obtain ⟨z', rfl, hz'⟩ : ∃ z' : Int, v = .int z' ∧ z'.natAbs ≤ 10 ^ 40 := by
        have e40 : (10 : Int) ^ Int.toNat 40 = 10 ^ 40 := rfl
        simp only [List.cons_append, List.nil_append, List.mem_cons, List.not_mem_nil, or_false] at hmem
        rcases hmem with rfl | rfl | rfl | rfl | rfl | rfl | rfl | rfl
        · exact ⟨_, rfl, by decide⟩
        · exact ⟨_, rfl, by decide⟩
        · exact ⟨_, rfl, by decide⟩
        · exact ⟨_, rfl, by omega⟩
        · exact ⟨_, rfl, by rw [e40]; omega⟩
        · exact ⟨_, rfl, by omega⟩
        · exact ⟨_, rfl, q2⟩
        · exact ⟨_, rfl, q1⟩
      refine ⟨_, rfl, ?_⟩
      refine ⟨p, _, _, _, rfl, rfl, SqL.of hp10, hv, ?_⟩
      walk_at "rd"
      refine ⟨fun v H' => ∃ x : Int, v = .int x ∧ x.natAbs ≤ 10 ^ 40 ∧ But [a] H H' ∧ PotAt H' a (c + 9), ?_, ?_⟩
      · walk_at "rd"
        refine use_draw 2 (c + 3 + 1 + 1 + 1 + 1 + 1) P10 (by omega) (by decide) (by decide) (fun H11 d11 b11 P11 _ _ => ?_)
        have B11 := B10.trans b11
        have P12 := P11.mono (by omega : c + 3 + 1 + 1 + 1 + 1 + 1 + 1 ≤ c + 9)
        walk_at "rd"
        refine iteD (fun _ => ?_) (fun _ => ?_)
        · walk_at "rd"
          assumption
        · walk_at "rd"
          assumption
      · rintro v H12 ⟨x, rfl, hx, B12, P12⟩
        exact kk _ _ B12 P12 hx
end

end K02

set_option Elab.async false
set_option linter.all false
set_option maxRecDepth 100000
set_option maxHeartbeats 2000000
namespace K02
open PySem L2 Lay RZ SkE
/-! ### reading steps -/
local macro_rules | `(tactic| walk_at "side") => `(tactic| first | rfl | decide | exact ⟨by decide, by decide, by decide⟩ | exact ⟨by omega, by omega, by decide⟩ | (unfold CMulW; decide +kernel) | assumption | omega | exact Nat.le_of_ble_eq_true rfl | (show (0 : Int) < _; first | assumption | decide | omega) | exact Or.inl ⟨by omega, by omega⟩ | exact Or.inr ⟨by omega, by omega⟩ | exact ⟨by omega, by decide⟩ | exact Or.inr ⟨by (split <;> omega), by (split <;> omega)⟩)
local macro_rules | `(tactic| walk_at "at") => `(tactic| first | rfl | assumption)
local macro_rules | `(tactic| walk_at "rd1") => `(tactic| first
  | (refine ⟨_, rfl, ?_⟩)
  | (refine ⟨_, _, rfl, rfl, ?_⟩)
  | (refine ⟨_, _, _, _, rfl, rfl, SqL.of (by assumption), (by walk_at "at"), ?_⟩)
  | (refine ⟨_, _, _, _, rfl, rfl, SqT.of (by assumption), (by walk_at "at"), ?_⟩)
  | (refine ⟨_, _, _, _, rfl, rfl, (by assumption), (by walk_at "at"), ?_⟩)
  | (refine ⟨_, _, rfl, SqT.of upd_same, rfl, ?_⟩)
  | (refine ⟨_, _, rfl, Or.inl (by first | assumption | exact SqL.of (by assumption)), ?_⟩)
  | (refine ⟨_, _, rfl, Or.inr (by first | assumption | exact SqT.of (by assumption)), ?_⟩)
  | (refine ⟨_, _, _, _, _, rfl, (by assumption), (by exact Own.cl (by assumption)), (by exact Own.no (by assumption) _ (by simp)), rfl, ?_⟩)
  | (refine ⟨_, _, _, rfl, (by assumption), rfl, ?_⟩)
  | (refine ⟨_, _, rfl, ?_⟩)
  | (refine ⟨_, _, _, rfl, ?_⟩)
  | (refine Or.inl ⟨_, rfl, ?_⟩)
  | (refine Or.inr ⟨_, rfl, ?_⟩)
  | (refine And.intro (by walk_at "side") ?_))
local macro_rules | `(tactic| walk_at "rd") => `(tactic| repeat walk_at "rd1")

/-! ### what parts both -/
@[irreducible] def spGcd : Sp := fun vs H Q _ => ∃ (a b : Nat), vs = [.int (a : Int), .int (b : Int)] ∧ Q (.int (Nat.gcd a b : Int)) H
theorem use_gcd {H : Hp} {Q : VK} {E : XK} {i j : Int} (a b : Nat) (hi : i = a) (hj : j = b) (k : Q (.int (Nat.gcd a b : Int)) H) : spGcd ([.int i, .int j] ++ []) H Q E := by
  unfold spGcd
  subst hi hj
  exact ⟨a, b, rfl, k⟩
theorem abs_nat (i : Int) : (if i < 0 then -i else i) = (i.natAbs : Int) := by split <;> omega
section
variable {P : Program} {w : World} {K : PySem.W.Frag} {mg : Str → Option Value} {base : Heap} {f : Addr} {fd : FuncData}
abbrev s_common_part : Stmt := (top 4)
abbrev common_part.N : List Str := ["one", "other"]
abbrev common_part.ps : List Str := ["one", "other"]
theorem sc_common_part : FnScope common_part.N common_part.ps (defScope s_common_part) := ⟨rfl, rfl, rfl, by decide +kernel, rfl, by decide +kernel, by decide +kernel⟩
theorem ok_common_part (F : Fun K "common_part" "common_part" s_common_part f fd) : FnG P w K mg base CX0 1 f fd common_part.ps spGcd := by
  refine gbody F sc_common_part (fun vs H Q E h => ?_) (fun cdv A outer s H vs Q E hr hg h => ?_)
  · unfold spGcd at h
    obtain ⟨a, b, rfl, _⟩ := h
    rfl
  · unfold spGcd at h
    obtain ⟨a, b, rfl, k⟩ := h
    refine ⟨_, (pss_cons (ps_while PassesOwn.never (pt_cmpR op_gt (pv 1) pe_int (nomark _)) (pss_one (ps_par (i := 0) (j := 1) rfl sc_common_part.nd rfl rfl (by decide) rfl rfl (pa_cons (pv 1) (pa_cons (pe_op op_mod (pv 0) (pv 1)) pa_nil)) (by rfl))))
      (pss_one (ps_ret (pv 0)))), ?_⟩
    refine while_by (fun σ H' => ∃ x y : Nat, σ = [some (.int (x : Int)), some (.int (y : Int))] ∧ H' = H ∧ Nat.gcd x y = Nat.gcd a b) (fun σ _ => match σ with | [_, some (.int y)] => y.toNat | _ => 0) ⟨a, b, rfl, rfl, rfl⟩ ?_ ?_
    · rintro σ H' ⟨x, y, rfl, rfl, e⟩
      walk_at "rd"
      refine iteD (fun hy => ?_) (fun hy => ?_)
      · walk_at "rd"
        refine ⟨⟨y, x % y, by rw [Int.natCast_emod]; rfl, rfl, ?_⟩, ?_⟩
        · rw [Nat.gcd_comm y, ← Nat.gcd_rec, Nat.gcd_comm, e]
        · show ((x : Int) % (y : Int)).toNat < ((y : Int)).toNat
          have h1 : (x : Int) % (y : Int) < y := Int.emod_lt_of_pos _ hy
          have h2 : 0 ≤ (x : Int) % (y : Int) := Int.emod_nonneg _ (by omega)
          omega
      · walk_at "rd"
        obtain rfl : y = 0 := by omega
        rw [Nat.gcd_zero_right] at e
        subst e
        exact k
    · rintro σ H Q Q' m ⟨v, hv, i, j, e1, e2, b, eb, q⟩
      exact ⟨v, hv, i, j, e1, e2, b, eb, m _ _ q⟩
end

/-! ### the class Ratio -/
def RatAt (CR : Addr) (H : Hp) (x : Addr) (t b : Int) : Prop := ∃ dx, H x = some (.ins CR dx [("top", .int t), ("below", .int b)])
theorem RatAt.same {CR : Addr} {H H' : Hp} {x : Addr} {t b : Int} (h : RatAt CR H x t b) (e : Same H H') : RatAt CR H' x t b := let ⟨dx, q⟩ := h; ⟨dx, e _ _ q⟩
theorem RatAt.but {CR : Addr} {H H' : Hp} {x a : Addr} {t b : Int} (h : RatAt CR H x t b) (e : But [a] H H') (n : x ≠ a) : RatAt CR H' x t b := let ⟨dx, q⟩ := h; ⟨dx, e _ _ (nin1 n) q⟩
theorem RatAt.notPot {CR : Addr} {H : Hp} {x a : Addr} {t b c : Int} (h : RatAt CR H x t b) (p : PotAt H a c) : x ≠ a := let ⟨_, q⟩ := h; p.notIns q
/-- smaller than 2 ^ n -/
def Bd (n : Nat) (i : Int) : Prop := i.natAbs < 2 ^ n
theorem Bd.mul {n m : Nat} {i j : Int} (h : Bd n i) (k : Bd m j) : Bd (n + m) (i * j) := wide_lt h k
theorem Bd.mono {n m : Nat} {i : Int} (h : Bd n i) (k : n ≤ m) : Bd m i := Nat.lt_of_lt_of_le h (Nat.pow_le_pow_right (by decide) k)
theorem Bd.add {n : Nat} {i j : Int} (h : Bd n i) (k : Bd n j) : Bd (n + 1) (i + j) := by
  unfold Bd at *
  have e : 2 ^ (n + 1) = 2 * 2 ^ n := by rw [Nat.pow_succ, Nat.mul_comm]
  rw [e]
  generalize 2 ^ n = N at *
  omega
theorem Bd.sub {n : Nat} {i j : Int} (h : Bd n i) (k : Bd n j) : Bd (n + 1) (i - j) := by
  unfold Bd at *
  have e : 2 ^ (n + 1) = 2 * 2 ^ n := by rw [Nat.pow_succ, Nat.mul_comm]
  rw [e]
  generalize 2 ^ n = N at *
  omega
theorem Bd.le {n : Nat} {i j : Int} (h : Bd n i) (k : j.natAbs ≤ i.natAbs) : Bd n j := Nat.lt_of_le_of_lt k h
set_option exponentiation.threshold 9000 in
theorem Bd.mulW {n m : Nat} {i j : Int} (h : Bd n i) (k : Bd m j) (hn : n ≤ 8000 := by decide) (hm : m ≤ 8000 := by decide) : CMulW i j := by
  unfold CMulW
  have h1 : i.natAbs.log2 < 8001 := PySem.Flt.log2_lt_of (by decide) (h.mono (by omega : n ≤ 8001))
  have h2 : j.natAbs.log2 < 8001 := PySem.Flt.log2_lt_of (by decide) (k.mono (by omega : m ≤ 8001))
  omega
theorem Bd.divA {n : Nat} {i j : Int} (h : Bd n j) (h0 : j ≠ 0) (hn : n ≤ 8000 := by decide) : CDivA i j :=
  ⟨h0, Nat.lt_trans (PySem.Flt.log2_lt_of (by decide) (h.mono (by omega : n ≤ 8001))) (by decide)⟩
section
variable {P : Program} {w : World} {K : PySem.W.Frag} {mg : Str → Option Value} {base : Heap} {f : Addr} {fd : FuncData} {CR CN CG : Addr}
abbrev s_NoRatio_init : Stmt := (inClass (top 2) 0)
abbrev NoRatio_init.N : List Str := ["self", "top"]
abbrev NoRatio_init.ps : List Str := ["self", "top"]
theorem sc_NoRatio_init : FnScope NoRatio_init.N NoRatio_init.ps (defScope s_NoRatio_init) := ⟨rfl, rfl, rfl, by decide +kernel, rfl, by decide +kernel, by decide +kernel⟩
theorem ok_NoRatio_init (F : Fun K "__init__" "NoRatio.__init__" s_NoRatio_init f fd) (O : OexC K CN) (hno : PySem.W.findIn K (.ref CN) "top" = some none) (B_GridError : GBase K mg "GridError" CG) :
    FnOk P w K mg base CX0 1 f fd NoRatio_init.ps (spX CN ["top"]) := by
  refine F.ok sc_NoRatio_init (fun vs H Q E h => ?_) (fun cdv A outer s H vs Q E hr h => ?_)
  · obtain ⟨a, ws, rfl, hl, _⟩ := h
    match ws, hl with
    | [_], _ => rfl
  · obtain ⟨a, ws, rfl, hl, ha, k⟩ := h
    match ws, hl with
    | [v], _ =>
      refine ⟨_, (pss_cons (ps_expr (pe_ginit rfl B_GridError.mgx B_GridError.sg B_GridError.rd B_GridError.vV (pa_cons (pv 0) (pa_cons pe_str pa_nil))))
      (pss_one (ps_ost (pv 0) (pv 1) rfl))), ?_⟩
      refine ⟨_, rfl, a, CN, _, rfl, by decide, O, ha, ?_⟩
      refine ⟨_, rfl, _, rfl, a, CN, rfl, O, hno, .inl ⟨ha, fun dx hd n => ?_⟩⟩
      exact k dx hd n
/-- Ratio(t, b): its own promise -/
@[irreducible] def spRInit (CR CN : Addr) : Sp := fun vs H Q E => ∃ (x dx : Addr) (t b : Int), vs = [.ref x, .int t, .int b] ∧ H x = some (.ins CR dx []) ∧ Bd 1000 t ∧ Bd 1000 b ∧
  (b ≠ 0 → ∀ H', But [x] H H' → H' x = some (.ins CR dx [("top", .int (Rat0.lTop t b)), ("below", .int (Rat0.lBel t b))]) → Q .non H') ∧
  (b = 0 → ∀ d, H d = none → E (.ref CN) (some d) (upd H d (.xd [("top", .int t)])))
abbrev s_Ratio_init : Stmt := (inClass (top 5) 0)
abbrev Ratio_init.N : List Str := ["self", "top", "below", "part"]
abbrev Ratio_init.ps : List Str := ["self", "top", "below"]
theorem sc_Ratio_init : FnScope Ratio_init.N Ratio_init.ps (defScope s_Ratio_init) := ⟨rfl, rfl, rfl, by decide +kernel, rfl, by decide +kernel, by decide +kernel⟩
theorem ok_Ratio_init (F : FunD K "__init__" "Ratio.__init__" (defArgs s_Ratio_init) (defBody s_Ratio_init) (defScope s_Ratio_init) [.int 1] [] f fd) (O : Own K CR ["top", "below"]) (X_NoRatio : ExcOk P w K mg base "NoRatio" CN ["top"] NoRatio_init.ps)
    (T : T02 mg) (C_common_part : Callee P w K mg base CX0 1 "common_part" s_common_part common_part.ps spGcd) : FnG P w K mg base (L2.CX P w) 3 f fd Ratio_init.ps (spRInit CR CN) := by
  refine gbodyD F sc_Ratio_init (fun vs H Q E h => ?_) (fun cdv A outer s H vs Q E hr hg h => ?_)
  · unfold spRInit at h
    obtain ⟨x, dx, t, b, rfl, _⟩ := h
    rfl
  · unfold spRInit at h
    obtain ⟨x, dx, t, b, rfl, hx, ht, hb, k1, k0⟩ := h
    refine ⟨_, (pss_cons (ps_if (pt_cmpR op_eqI (pv 2) pe_int (nomark _)) (pss_one (X_NoRatio.raise rfl rfl hr (takes_of rfl rfl rfl rfl) (pa_cons (pv 1) pa_nil))) pss_nil)
      (pss_cons (ps_set (i := 3) sc_Ratio_init.nd rfl (Or.inl rfl) (C_common_part.call rfl hr hg (pa_cons (pe_callB call_abs (by rfl) T.b_abs (by decide +kernel) (pa_cons (pv 1) pa_nil)) (pa_cons (pe_callB call_abs (by rfl) T.b_abs (by decide +kernel) (pa_cons (pv 2) pa_nil)) pa_nil))))
      (pss_cons (ps_cut (ps_if (pt_cmpR op_lt (pv 2) pe_int (nomark _)) (pss_one (ps_set (i := 3) sc_Ratio_init.nd rfl (Or.inl rfl) (pe_un un_neg (pv 3)))) pss_nil))
      (pss_cons (ps_fld (pv 0) (pe_op op_fdivA (pv 1) (pv 3)) rfl)
      (pss_one (ps_fld (pv 0) (pe_op op_fdivA (pv 2) (pv 3)) rfl)))))), ?_⟩
    walk_at "rd"
    refine iteD (fun hb0 => ?_) (fun hb0 => ?_)
    · walk_at "rd"
      exact fun d hd => k0 hb0 d hd
    · walk_at "rd"
      refine use_gcd t.natAbs b.natAbs (abs_nat t) (abs_nat b) ?_
      walk_at "rd"
      refine ⟨fun σ' H' => H' = H ∧ σ' = [some (.ref x), some (.int t), some (.int b), some (.int (Rat0.part t b))], ?_, ?_⟩
      · walk_at "rd"
        refine iteD (fun hn => ?_) (fun hn => ?_)
        · walk_at "rd"
          unfold Rat0.part
          rw [if_pos hn]
          rfl
        · refine ⟨rfl, ?_⟩
          unfold Rat0.part
          rw [if_neg hn]
          rfl
      · rintro σ' H' ⟨rfl, rfl⟩
        have hp := Rat0.part_ne (a := t) hb0
        have hpb : Bd 1000 (Rat0.part t b) := hb.le (Rat0.part_le hb0)
        walk_at "rd"
        refine ⟨hpb.divA hp, ?_⟩
        walk_at "rd"
        refine ⟨x, CR, dx, _, rfl, hx, O.cl, O.no _ (by simp), by decide, ?_⟩
        walk_at "rd"
        refine ⟨hpb.divA hp, ?_⟩
        walk_at "rd"
        refine ⟨x, CR, dx, _, rfl, upd_same, O.cl, O.no _ (by simp), (by show (1 : Nat) < 1000; decide), ?_⟩
        refine k1 hb0 _ (((But.refl _ _).set (by simp)).set (by simp)) ?_
        exact upd_same
end

end K02

set_option Elab.async false
set_option linter.all false
set_option maxRecDepth 100000
set_option maxHeartbeats 2000000
namespace K02
open PySem L2 Lay RZ SkE Rat0
/-! ### reading steps -/
local macro_rules | `(tactic| walk_at "side") => `(tactic| first | rfl | decide | exact ⟨by decide, by decide, by decide⟩ | exact ⟨by omega, by omega, by decide⟩ | (unfold CMulW; decide +kernel) | assumption | omega | exact Nat.le_of_ble_eq_true rfl | (show (0 : Int) < _; first | assumption | decide | omega) | exact Or.inl ⟨by omega, by omega⟩ | exact Or.inr ⟨by omega, by omega⟩ | exact ⟨by omega, by decide⟩ | exact Or.inr ⟨by (split <;> omega), by (split <;> omega)⟩)
local macro_rules | `(tactic| walk_at "at") => `(tactic| first | rfl | assumption)
local macro_rules | `(tactic| walk_at "rd1") => `(tactic| first
  | (refine ⟨_, rfl, ?_⟩)
  | (refine ⟨_, _, rfl, rfl, ?_⟩)
  | (refine ⟨_, _, _, _, rfl, rfl, SqL.of (by assumption), (by walk_at "at"), ?_⟩)
  | (refine ⟨_, _, _, _, rfl, rfl, SqT.of (by assumption), (by walk_at "at"), ?_⟩)
  | (refine ⟨_, _, _, _, rfl, rfl, (by assumption), (by walk_at "at"), ?_⟩)
  | (refine ⟨_, _, rfl, SqT.of upd_same, rfl, ?_⟩)
  | (refine ⟨_, _, rfl, Or.inl (by first | assumption | exact SqL.of (by assumption)), ?_⟩)
  | (refine ⟨_, _, rfl, Or.inr (by first | assumption | exact SqT.of (by assumption)), ?_⟩)
  | (refine ⟨_, _, _, _, _, rfl, (by assumption), (by exact Own.cl (by assumption)), (by exact Own.no (by assumption) _ (by simp)), rfl, ?_⟩)
  | (refine ⟨_, _, _, rfl, (by assumption), rfl, ?_⟩)
  | (refine ⟨_, _, rfl, ?_⟩)
  | (refine ⟨_, _, _, rfl, ?_⟩)
  | (refine Or.inl ⟨_, rfl, ?_⟩)
  | (refine Or.inr ⟨_, rfl, ?_⟩)
  | (refine And.intro (by walk_at "side") ?_))
local macro_rules | `(tactic| walk_at "rd") => `(tactic| repeat walk_at "rd1")

section
variable {P : Program} {w : World} {K : PySem.W.Frag} {mg : Str → Option Value} {base : Heap} {f : Addr} {fd : FuncData}
abbrev s_common : Stmt := (top 10)
abbrev common.N : List Str := ["_law_one", "_law_its"]
abbrev common.ps : List Str := ["_law_one", "_law_its"]
theorem sc_common : FnScope common.N common.ps (defScope s_common) := ⟨rfl, rfl, rfl, by decide +kernel, rfl, by decide +kernel, by decide +kernel⟩
theorem ok_common (F : Fun K "_law_common" "_law_common" s_common f fd) : FnG P w K mg base CX0 1 f fd common.ps spGcd := by
  refine gbody F sc_common (fun vs H Q E h => ?_) (fun cdv A outer s H vs Q E hr hg h => ?_)
  · unfold spGcd at h
    obtain ⟨a, b, rfl, _⟩ := h
    rfl
  · unfold spGcd at h
    obtain ⟨a, b, rfl, k⟩ := h
    refine ⟨_, (pss_cons (ps_while PassesOwn.never (pt_cmpR op_gt (pv 1) pe_int (nomark _)) (pss_one (ps_par (i := 0) (j := 1) rfl sc_common.nd rfl rfl (by decide) rfl rfl (pa_cons (pv 1) (pa_cons (pe_op op_mod (pv 0) (pv 1)) pa_nil)) (by rfl))))
      (pss_one (ps_ret (pv 0)))), ?_⟩
    refine while_by (fun σ H' => ∃ x y : Nat, σ = [some (.int (x : Int)), some (.int (y : Int))] ∧ H' = H ∧ Nat.gcd x y = Nat.gcd a b) (fun σ _ => match σ with | [_, some (.int y)] => y.toNat | _ => 0) ⟨a, b, rfl, rfl, rfl⟩ ?_ ?_
    · rintro σ H' ⟨x, y, rfl, rfl, e⟩
      walk_at "rd"
      refine iteD (fun hy => ?_) (fun hy => ?_)
      · walk_at "rd"
        refine ⟨⟨y, x % y, by rw [Int.natCast_emod]; rfl, rfl, ?_⟩, ?_⟩
        · rw [Nat.gcd_comm y, ← Nat.gcd_rec, Nat.gcd_comm, e]
        · show ((x : Int) % (y : Int)).toNat < ((y : Int)).toNat
          have h1 : (x : Int) % (y : Int) < y := Int.emod_lt_of_pos _ hy
          have h2 : 0 ≤ (x : Int) % (y : Int) := Int.emod_nonneg _ (by omega)
          omega
      · walk_at "rd"
        obtain rfl : y = 0 := by omega
        rw [Nat.gcd_zero_right] at e
        subst e
        exact k
    · rintro σ H Q Q' m ⟨v, hv, i, j, e1, e2, b, eb, q⟩
      exact ⟨v, hv, i, j, e1, e2, b, eb, m _ _ q⟩
end

theorem use_make {CR CN : Addr} {H : Hp} {R : Addr → VK} {E : XK} {t b : Int} (ht : Bd 1000 t) (hb : Bd 1000 b)
    (k1 : b ≠ 0 → ∀ x H', H x = none → Same H H' → RatAt CR H' x (lTop t b) (lBel t b) → R x .non H')
    (k0 : b = 0 → ∀ d H', H d = none → Same H H' → H' d = some (.xd [("top", .int t)]) → E (.ref CN) (some d) H') :
    ∀ x dx, H x = none → H dx = none → dx ≠ x → spRInit CR CN (.ref x :: [.int t, .int b]) (upd (upd H dx (.own x)) x (.ins CR dx [])) (R x) E := by
  intro x dx hx hdx n
  have sm : Same H (upd (upd H dx (.own x)) x (.ins CR dx [])) := same_to (same_new hdx) hx
  unfold spRInit
  refine ⟨x, dx, t, b, rfl, upd_same, ht, hb, fun h H' bt hx' => k1 h x H' hx (same_but sm hx bt) ⟨dx, hx'⟩, fun h d hd => ?_⟩
  exact k0 h d _ (Same.free sm hd) (same_add sm hd) upd_same
@[irreducible] def spLeast : Sp := fun vs H Q _ => ∃ (t b : Int), vs = [.int t, .int b] ∧ Bd 1000 t ∧ Bd 1000 b ∧ b ≠ 0 ∧ ∀ p H', H p = none → Same H H' → H' p = some (.tup [.int (lTop t b), .int (lBel t b)]) → Q (.ref p) H'
theorem use_least {H : Hp} {Q : VK} {E : XK} {t b : Int} (ht : Bd 1000 t) (hb : Bd 1000 b) (h0 : b ≠ 0)
    (k : ∀ p H', H p = none → Same H H' → H' p = some (.tup [.int (lTop t b), .int (lBel t b)]) → Q (.ref p) H') : spLeast ([.int t, .int b] ++ []) H Q E := by
  unfold spLeast
  exact ⟨t, b, rfl, ht, hb, h0, k⟩
/-- what shows of two numbers -/
def pd (t b : Int) : PyData := .tuple [.int t, .int b]
theorem pd_shaped (t b : Int) : SeqAt.shaped (pd t b) = true := rfl
theorem bd_log {n : Nat} {i : Int} (h : Bd n i) (hn : n ≤ 1900) : i.natAbs.log2 < 1920 := log_small (k := n + 1) (h.mono (Nat.le_succ n)) (by omega) (by omega)
section
variable {P : Program} {w : World} {K : PySem.W.Frag} {mg : Str → Option Value} {base : Heap} {f : Addr} {fd : FuncData} {CR CN CG : Addr}
abbrev s_least : Stmt := (top 11)
abbrev least.N : List Str := ["_law_high", "_law_low", "_law_part"]
abbrev least.ps : List Str := ["_law_high", "_law_low"]
theorem sc_least : FnScope least.N least.ps (defScope s_least) := ⟨rfl, rfl, rfl, by decide +kernel, rfl, by decide +kernel, by decide +kernel⟩
theorem ok_least (F : Fun K "_law_least" "_law_least" s_least f fd) (T : T02 mg) (C_common : Callee P w K mg base CX0 1 "_law_common" s_common common.ps spGcd) : FnG P w K mg base CX0 2 f fd least.ps spLeast := by
  refine gbody F sc_least (fun vs H Q E h => ?_) (fun cdv A outer s H vs Q E hr hg h => ?_)
  · unfold spLeast at h
    obtain ⟨t, b, rfl, _⟩ := h
    rfl
  · unfold spLeast at h
    obtain ⟨t, b, rfl, ht, hb, hb0, k⟩ := h
    refine ⟨_, (pss_cons (ps_set (i := 2) sc_least.nd rfl (Or.inl rfl) (C_common.call rfl hr hg (pa_cons (pe_callB call_abs (by rfl) T.b_abs (by decide +kernel) (pa_cons (pv 0) pa_nil)) (pa_cons (pe_callB call_abs (by rfl) T.b_abs (by decide +kernel) (pa_cons (pv 1) pa_nil)) pa_nil))))
      (pss_cons (ps_cut (ps_if (pt_cmpR op_lt (pv 1) pe_int (nomark _)) (pss_one (ps_set (i := 2) sc_least.nd rfl (Or.inl rfl) (pe_op op_sub pe_int (pv 2)))) pss_nil))
      (pss_one (ps_ret (pe_tupN (pa_cons (pe_op op_fdivA (pv 0) (pv 2)) (pa_cons (pe_op op_fdivA (pv 1) (pv 2)) pa_nil))))))), ?_⟩
    walk_at "rd"
    refine use_gcd t.natAbs b.natAbs (abs_nat t) (abs_nat b) ?_
    walk_at "rd"
    refine ⟨fun σ' H' => H' = H ∧ σ' = [some (.int t), some (.int b), some (.int (Rat0.part t b))], ?_, ?_⟩
    · walk_at "rd"
      refine iteD (fun hn => ?_) (fun hn => ?_)
      · walk_at "rd"
        unfold Rat0.part
        rw [if_pos hn]
        rw [← Int.zero_sub]
        rfl
      · refine ⟨rfl, ?_⟩
        unfold Rat0.part
        rw [if_neg hn]
        rfl
    · rintro σ' H' ⟨rfl, rfl⟩
      have hp := Rat0.part_ne (a := t) hb0
      have hpb : Bd 1000 (Rat0.part t b) := hb.le (Rat0.part_le hb0)
      walk_at "rd"
      refine ⟨hpb.divA hp, ?_⟩
      walk_at "rd"
      refine ⟨hpb.divA hp, ?_⟩
      walk_at "rd"
      exact k

@[irreducible] def spIs (CR : Addr) : Sp := fun vs H Q _ => ∃ (x : Addr) (t b : Int), vs = [.ref x, .int t, .int b] ∧ RatAt CR H x (lTop t b) (lBel t b) ∧ Bd 1000 t ∧ Bd 1000 b ∧ b ≠ 0 ∧ ∀ H', Same H H' → Q (.bl true) H'
theorem use_is {CR : Addr} {H : Hp} {Q : VK} {E : XK} {x : Addr} {t b : Int} (hx : RatAt CR H x (lTop t b) (lBel t b)) (ht : Bd 1000 t) (hb : Bd 1000 b) (h0 : b ≠ 0)
    (k : ∀ H', Same H H' → Q (.bl true) H') : spIs CR ([.ref x, .int t, .int b] ++ []) H Q E := by
  unfold spIs
  exact ⟨x, t, b, rfl, hx, ht, hb, h0, k⟩
theorem pd_small {n m : Nat} {t b : Int} (ht : Bd n t) (hb : Bd m b) (hn : n ≤ 1900 := by decide) (hm : m ≤ 1900 := by decide) : (pd t b).showable = true ∧ (pd t b).shown.length ≤ sizeLine := by
  have h1 := int_short (bd_log ht hn)
  have h2 := int_short (bd_log hb hm)
  have h : (pd t b).leavesShort 2000 = true := by
    simp only [pd, PyData.leavesShort, PyData.leavesShortAll, Bool.and_eq_true] at h1 h2 ⊢
    exact ⟨h1, h2, trivial⟩
  refine ⟨?_, shown_small h (by show 0 + 1 + (0 + 1 + 0) ≤ 8000; decide)⟩
  simp only [pd, PyData.showable, PyData.showableAll, decide_eq_true (bd_log ht hn), decide_eq_true (bd_log hb hm)]
  rfl
abbrev s_is : Stmt := (top 12)
abbrev is.N : List Str := ["_law_found", "_law_high", "_law_low"]
abbrev is.ps : List Str := ["_law_found", "_law_high", "_law_low"]
theorem sc_is : FnScope is.N is.ps (defScope s_is) := ⟨rfl, rfl, rfl, by decide +kernel, rfl, by decide +kernel, by decide +kernel⟩
theorem ok_is (F : Fun K "_law_is" "_law_is" s_is f fd) (T : T02 mg) (O : Own K CR ["top", "below"]) (G_Ratio : mg "Ratio" = some (.ref CR)) (C_least : Callee P w K mg base CX0 2 "_law_least" s_least least.ps spLeast) : FnG P w K mg base CX0 3 f fd is.ps (spIs CR) := by
  refine gbody F sc_is (fun vs H Q E h => ?_) (fun cdv A outer s H vs Q E hr hg h => ?_)
  · unfold spIs at h
    obtain ⟨x, t, b, rfl, _⟩ := h
    rfl
  · unfold spIs at h
    obtain ⟨x, t, b, rfl, ⟨dx, hx⟩, ht, hb, hb0, k⟩ := h
    refine ⟨_, (pss_one (ps_ret (pe_and (pe_callB (call_isi) (by rfl) T.b_isinstance (by decide +kernel) (pa_cons (pv 0) (pa_cons (pe_globR rfl G_Ratio) pa_nil))) (pe_one (pe_cmpR op_eq (pe_callB (call_repr_data hg (room150 hr)) (by rfl) T.b_repr (by decide +kernel) (pa_cons (pe_tupN (pa_cons (pe_fld (pv 0) rfl) (pa_cons (pe_fld (pv 0) rfl) pa_nil))) pa_nil)) (pe_callB (call_repr_data hg (room150 hr)) (by rfl) T.b_repr (by decide +kernel) (pa_cons (C_least.call rfl hr hg (pa_cons (pv 1) (pa_cons (pv 2) pa_nil))) pa_nil)) (nomark _)))))), ?_⟩
    walk_at "rd"
    refine ⟨.ref x, .ref CR, .ref CR, .ref CR, true, rfl, .own CR, O.ty hx, kit_self, ?_⟩
    walk_at "rd"
    intro p H1 hp s1 hp1
    have bt := ht.le (lTop_le hb0)
    have bb := hb.le (lBel_le (a := t) hb0)
    obtain ⟨p1, p2⟩ := pd_small bt bb
    refine ⟨p, pd (lTop t b) (lBel t b), rfl, .tup (SqT.of hp1) (.cons (.int _) (.cons (.int _) .nil)), p1, rfl, p2, ?_⟩
    walk_at "rd"
    refine use_least ht hb hb0 (fun q H2 hq s2 hq2 => ?_)
    refine ⟨q, pd (lTop t b) (lBel t b), rfl, .tup (SqT.of hq2) (.cons (.int _) (.cons (.int _) .nil)), p1, rfl, p2, ?_⟩
    walk_at "rd"
    rw [decide_eq_true rfl]
    exact k _ (fun b o e => s2 _ _ (s1 _ _ e))
end
end K02

set_option Elab.async false
set_option linter.all false
set_option maxRecDepth 100000
set_option maxHeartbeats 2000000
namespace K02
open PySem L2 Lay RZ SkE Rat0
/-! ### reading steps -/
local macro_rules | `(tactic| walk_at "side") => `(tactic| first | rfl | decide | exact ⟨by decide, by decide, by decide⟩ | exact ⟨by omega, by omega, by decide⟩ | (unfold CMulW; decide +kernel) | assumption | omega | exact Nat.le_of_ble_eq_true rfl | (show (0 : Int) < _; first | assumption | decide | omega) | exact Or.inl ⟨by omega, by omega⟩ | exact Or.inr ⟨by omega, by omega⟩ | exact ⟨by omega, by decide⟩ | exact Or.inr ⟨by (split <;> omega), by (split <;> omega)⟩)
local macro_rules | `(tactic| walk_at "at") => `(tactic| first | rfl | assumption)
local macro_rules | `(tactic| walk_at "rd1") => `(tactic| first
  | (refine ⟨_, rfl, ?_⟩)
  | (refine ⟨_, _, rfl, rfl, ?_⟩)
  | (refine ⟨_, _, _, _, rfl, rfl, SqL.of (by assumption), (by walk_at "at"), ?_⟩)
  | (refine ⟨_, _, _, _, rfl, rfl, SqT.of (by assumption), (by walk_at "at"), ?_⟩)
  | (refine ⟨_, _, _, _, rfl, rfl, (by assumption), (by walk_at "at"), ?_⟩)
  | (refine ⟨_, _, rfl, SqT.of upd_same, rfl, ?_⟩)
  | (refine ⟨_, _, rfl, Or.inl (by first | assumption | exact SqL.of (by assumption)), ?_⟩)
  | (refine ⟨_, _, rfl, Or.inr (by first | assumption | exact SqT.of (by assumption)), ?_⟩)
  | (refine ⟨_, _, _, _, _, rfl, (by assumption), (by exact Own.cl (by assumption)), (by exact Own.no (by assumption) _ (by simp)), rfl, ?_⟩)
  | (refine ⟨_, _, _, rfl, (by assumption), rfl, ?_⟩)
  | (refine ⟨_, _, rfl, ?_⟩)
  | (refine ⟨_, _, _, rfl, ?_⟩)
  | (refine Or.inl ⟨_, rfl, ?_⟩)
  | (refine Or.inr ⟨_, rfl, ?_⟩)
  | (refine And.intro (by walk_at "side") ?_))
local macro_rules | `(tactic| walk_at "rd") => `(tactic| repeat walk_at "rd1")

@[irreducible] def spBin (CR : Addr) (ft fb : Int → Int → Int → Int → Int) : Sp := fun vs H Q _ => ∃ (x y : Addr) (a b c d : Int), vs = [.ref x, .ref y] ∧ RatAt CR H x a b ∧ RatAt CR H y c d ∧
  Bd 200 a ∧ Bd 200 b ∧ Bd 200 c ∧ Bd 200 d ∧ fb a b c d ≠ 0 ∧ ∀ p H', H p = none → Same H H' → RatAt CR H' p (lTop (ft a b c d) (fb a b c d)) (lBel (ft a b c d) (fb a b c d)) → Q (.ref p) H'
theorem use_bin {CR : Addr} {ft fb : Int → Int → Int → Int → Int} {H : Hp} {Q : VK} {E : XK} {x y : Addr} {a b c d : Int} (hx : RatAt CR H x a b) (hy : RatAt CR H y c d)
    (ha : Bd 200 a) (hb : Bd 200 b) (hc : Bd 200 c) (hd : Bd 200 d) (h0 : fb a b c d ≠ 0)
    (k : ∀ p H', H p = none → Same H H' → RatAt CR H' p (lTop (ft a b c d) (fb a b c d)) (lBel (ft a b c d) (fb a b c d)) → Q (.ref p) H') : spBin CR ft fb [.ref x, .ref y] H Q E := by
  unfold spBin
  exact ⟨x, y, a, b, c, d, rfl, hx, hy, ha, hb, hc, hd, h0, k⟩
@[irreducible] def spOver (CR CN : Addr) : Sp := fun vs H Q E => ∃ (x y : Addr) (a b c d : Int), vs = [.ref x, .ref y] ∧ RatAt CR H x a b ∧ RatAt CR H y c d ∧
  Bd 200 a ∧ Bd 200 b ∧ Bd 200 c ∧ Bd 200 d ∧ b ≠ 0 ∧
  (c ≠ 0 → ∀ p H', H p = none → Same H H' → RatAt CR H' p (lTop (a * d) (b * c)) (lBel (a * d) (b * c)) → Q (.ref p) H') ∧
  (c = 0 → ∀ e H', H e = none → Same H H' → H' e = some (.xd [("top", .int a)]) → E (.ref CN) (some e) H')
@[irreducible] def spLess (CR : Addr) : Sp := fun vs H Q _ => ∃ (x y : Addr) (a b c d : Int), vs = [.ref x, .ref y] ∧ RatAt CR H x a b ∧ RatAt CR H y c d ∧
  Bd 200 a ∧ Bd 200 b ∧ Bd 200 c ∧ Bd 200 d ∧ Q (.bl (decide (a * d < c * b))) H
@[irreducible] def spFloor (CR : Addr) : Sp := fun vs H Q _ => ∃ (x : Addr) (a b : Int), vs = [.ref x] ∧ RatAt CR H x a b ∧ Bd 200 b ∧ b ≠ 0 ∧ Q (.int (a.fdiv b)) H
section
variable {P : Program} {w : World} {K : PySem.W.Frag} {mg : Str → Option Value} {base : Heap} {f : Addr} {fd : FuncData} {CR CN CG : Addr} {DI : Addr → FuncData → Prop}

abbrev s_Ratio_plus : Stmt := (inClass (top 5) 4)
abbrev Ratio_plus.N : List Str := ["self", "other"]
abbrev Ratio_plus.ps : List Str := ["self", "other"]
theorem sc_Ratio_plus : FnScope Ratio_plus.N Ratio_plus.ps (defScope s_Ratio_plus) := ⟨rfl, rfl, rfl, by decide +kernel, rfl, by decide +kernel, by decide +kernel⟩
theorem ok_Ratio_plus (F : Fun K "plus" "Ratio.plus" s_Ratio_plus f fd) (O : Own K CR ["top", "below"]) (C_Ratio : Maker P w K mg base (L2.CX P w) 3 "Ratio" CR DI Ratio_init.ps (spRInit CR CN)) :
    FnG P w K mg base CX0 5 f fd Ratio_plus.ps (spBin CR (fun a b c d => a * d + c * b) (fun a b c d => b * d)) := by
  refine gbody F sc_Ratio_plus (fun vs H Q E h => ?_) (fun cdv A outer s H vs Q E hr hg h => ?_)
  · unfold spBin at h
    obtain ⟨x, y, a, b, c, d, rfl, _⟩ := h
    rfl
  · unfold spBin at h
    obtain ⟨x, y, a, b, c, d, rfl, ⟨dx, hx⟩, ⟨dy, hy⟩, ha, hb, hc, hd, h0, k⟩ := h
    refine ⟨_, (pss_one (ps_ret (C_Ratio.makeE rfl hr hg (atAll passL) (pa_cons (pe_op op_add (pe_op op_mulW (pe_fld (pv 0) rfl) (pe_fld (pv 1) rfl)) (pe_op op_mulW (pe_fld (pv 1) rfl) (pe_fld (pv 0) rfl))) (pa_cons (pe_op op_mulW (pe_fld (pv 0) rfl) (pe_fld (pv 1) rfl)) pa_nil))))), ?_⟩
    have m1 : CMulW a d := ha.mulW hd
    have m2 : CMulW c b := hc.mulW hb
    have m3 : CMulW b d := hb.mulW hd
    have m4 : CMulW a c := ha.mulW hc
    walk_at "rd"
    refine use_make (((ha.mul hd).add (hc.mul hb)).mono (by decide)) ((hb.mul hd).mono (by decide)) (fun _ p H' hp sm hr => ⟨rfl, k p H' hp sm hr⟩) (fun z => absurd z h0)

abbrev s_Ratio_minus : Stmt := (inClass (top 5) 5)
abbrev Ratio_minus.N : List Str := ["self", "other"]
abbrev Ratio_minus.ps : List Str := ["self", "other"]
theorem sc_Ratio_minus : FnScope Ratio_minus.N Ratio_minus.ps (defScope s_Ratio_minus) := ⟨rfl, rfl, rfl, by decide +kernel, rfl, by decide +kernel, by decide +kernel⟩
theorem ok_Ratio_minus (F : Fun K "minus" "Ratio.minus" s_Ratio_minus f fd) (O : Own K CR ["top", "below"]) (C_Ratio : Maker P w K mg base (L2.CX P w) 3 "Ratio" CR DI Ratio_init.ps (spRInit CR CN)) :
    FnG P w K mg base CX0 5 f fd Ratio_minus.ps (spBin CR (fun a b c d => a * d - c * b) (fun a b c d => b * d)) := by
  refine gbody F sc_Ratio_minus (fun vs H Q E h => ?_) (fun cdv A outer s H vs Q E hr hg h => ?_)
  · unfold spBin at h
    obtain ⟨x, y, a, b, c, d, rfl, _⟩ := h
    rfl
  · unfold spBin at h
    obtain ⟨x, y, a, b, c, d, rfl, ⟨dx, hx⟩, ⟨dy, hy⟩, ha, hb, hc, hd, h0, k⟩ := h
    refine ⟨_, (pss_one (ps_ret (C_Ratio.makeE rfl hr hg (atAll passL) (pa_cons (pe_op op_sub (pe_op op_mulW (pe_fld (pv 0) rfl) (pe_fld (pv 1) rfl)) (pe_op op_mulW (pe_fld (pv 1) rfl) (pe_fld (pv 0) rfl))) (pa_cons (pe_op op_mulW (pe_fld (pv 0) rfl) (pe_fld (pv 1) rfl)) pa_nil))))), ?_⟩
    have m1 : CMulW a d := ha.mulW hd
    have m2 : CMulW c b := hc.mulW hb
    have m3 : CMulW b d := hb.mulW hd
    have m4 : CMulW a c := ha.mulW hc
    walk_at "rd"
    refine use_make (((ha.mul hd).sub (hc.mul hb)).mono (by decide)) ((hb.mul hd).mono (by decide)) (fun _ p H' hp sm hr => ⟨rfl, k p H' hp sm hr⟩) (fun z => absurd z h0)

abbrev s_Ratio_times : Stmt := (inClass (top 5) 6)
abbrev Ratio_times.N : List Str := ["self", "other"]
abbrev Ratio_times.ps : List Str := ["self", "other"]
theorem sc_Ratio_times : FnScope Ratio_times.N Ratio_times.ps (defScope s_Ratio_times) := ⟨rfl, rfl, rfl, by decide +kernel, rfl, by decide +kernel, by decide +kernel⟩
theorem ok_Ratio_times (F : Fun K "times" "Ratio.times" s_Ratio_times f fd) (O : Own K CR ["top", "below"]) (C_Ratio : Maker P w K mg base (L2.CX P w) 3 "Ratio" CR DI Ratio_init.ps (spRInit CR CN)) :
    FnG P w K mg base CX0 5 f fd Ratio_times.ps (spBin CR (fun a b c d => a * c) (fun a b c d => b * d)) := by
  refine gbody F sc_Ratio_times (fun vs H Q E h => ?_) (fun cdv A outer s H vs Q E hr hg h => ?_)
  · unfold spBin at h
    obtain ⟨x, y, a, b, c, d, rfl, _⟩ := h
    rfl
  · unfold spBin at h
    obtain ⟨x, y, a, b, c, d, rfl, ⟨dx, hx⟩, ⟨dy, hy⟩, ha, hb, hc, hd, h0, k⟩ := h
    refine ⟨_, (pss_one (ps_ret (C_Ratio.makeE rfl hr hg (atAll passL) (pa_cons (pe_op op_mulW (pe_fld (pv 0) rfl) (pe_fld (pv 1) rfl)) (pa_cons (pe_op op_mulW (pe_fld (pv 0) rfl) (pe_fld (pv 1) rfl)) pa_nil))))), ?_⟩
    have m1 : CMulW a d := ha.mulW hd
    have m2 : CMulW c b := hc.mulW hb
    have m3 : CMulW b d := hb.mulW hd
    have m4 : CMulW a c := ha.mulW hc
    walk_at "rd"
    refine use_make ((ha.mul hc).mono (by decide)) ((hb.mul hd).mono (by decide)) (fun _ p H' hp sm hr => ⟨rfl, k p H' hp sm hr⟩) (fun z => absurd z h0)

abbrev s_Ratio_over : Stmt := (inClass (top 5) 7)
abbrev Ratio_over.N : List Str := ["self", "other"]
abbrev Ratio_over.ps : List Str := ["self", "other"]
theorem sc_Ratio_over : FnScope Ratio_over.N Ratio_over.ps (defScope s_Ratio_over) := ⟨rfl, rfl, rfl, by decide +kernel, rfl, by decide +kernel, by decide +kernel⟩
theorem ok_Ratio_over (F : Fun K "over" "Ratio.over" s_Ratio_over f fd) (O : Own K CR ["top", "below"]) (X_NoRatio : ExcOk P w K mg base "NoRatio" CN ["top"] NoRatio_init.ps)
    (C_Ratio : Maker P w K mg base (L2.CX P w) 3 "Ratio" CR DI Ratio_init.ps (spRInit CR CN)) :
    FnG P w K mg base (L2.CX P w) 5 f fd Ratio_over.ps (spOver CR CN) := by
  refine gbodyX F sc_Ratio_over (fun vs H Q E h => ?_) (fun cdv A outer s H vs Q E hr hg h => ?_)
  · unfold spOver at h
    obtain ⟨x, y, a, b, c, d, rfl, _⟩ := h
    rfl
  · unfold spOver at h
    obtain ⟨x, y, a, b, c, d, rfl, ⟨dx, hx⟩, ⟨dy, hy⟩, ha, hb, hc, hd, h0, k, k0⟩ := h
    refine ⟨_, (pss_cons (ps_if (pt_cmpR op_eqI (pe_fld (pv 1) rfl) pe_int (nomark _)) (pss_one (X_NoRatio.raise rfl rfl hr (takes_of rfl rfl rfl rfl) (pa_cons (pe_fld (pv 0) rfl) pa_nil))) pss_nil)
      (pss_one (ps_ret (C_Ratio.makeE rfl hr hg (fun σ => passAt (takes_of rfl rfl rfl rfl) σ) (pa_cons (pe_op op_mulW (pe_fld (pv 0) rfl) (pe_fld (pv 1) rfl)) (pa_cons (pe_op op_mulW (pe_fld (pv 0) rfl) (pe_fld (pv 1) rfl)) pa_nil)))))), ?_⟩
    have m1 : CMulW a d := ha.mulW hd
    have m2 : CMulW b c := hb.mulW hc
    walk_at "rd"
    refine iteD (fun hz => ?_) (fun hz => ?_)
    · walk_at "rd"
      exact fun e he => k0 hz e _ he (same_new he) upd_same
    · walk_at "rd"
      refine use_make ((ha.mul hd).mono (by decide)) ((hb.mul hc).mono (by decide)) (fun _ p H' hp sm hr => ⟨rfl, k hz p H' hp sm hr⟩) (fun z => absurd z ?_)
      exact Int.mul_ne_zero h0 hz

abbrev s_Ratio_less : Stmt := (inClass (top 5) 8)
abbrev Ratio_less.N : List Str := ["self", "other"]
abbrev Ratio_less.ps : List Str := ["self", "other"]
theorem sc_Ratio_less : FnScope Ratio_less.N Ratio_less.ps (defScope s_Ratio_less) := ⟨rfl, rfl, rfl, by decide +kernel, rfl, by decide +kernel, by decide +kernel⟩
theorem ok_Ratio_less (F : Fun K "less" "Ratio.less" s_Ratio_less f fd) (O : Own K CR ["top", "below"]) :
    FnG P w K mg base CX0 1 f fd Ratio_less.ps (spLess CR) := by
  refine gbody F sc_Ratio_less (fun vs H Q E h => ?_) (fun cdv A outer s H vs Q E hr hg h => ?_)
  · unfold spLess at h
    obtain ⟨x, y, a, b, c, d, rfl, _⟩ := h
    rfl
  · unfold spLess at h
    obtain ⟨x, y, a, b, c, d, rfl, ⟨dx, hx⟩, ⟨dy, hy⟩, ha, hb, hc, hd, k⟩ := h
    refine ⟨_, (pss_one (ps_ret (pe_cmpR op_lt (pe_op op_mulW (pe_fld (pv 0) rfl) (pe_fld (pv 1) rfl)) (pe_op op_mulW (pe_fld (pv 1) rfl) (pe_fld (pv 0) rfl)) (nomark _)))), ?_⟩
    have m1 : CMulW a d := ha.mulW hd
    have m2 : CMulW c b := hc.mulW hb
    walk_at "rd"
    exact k

abbrev s_Ratio_floor : Stmt := (inClass (top 5) 9)
abbrev Ratio_floor.N : List Str := ["self"]
abbrev Ratio_floor.ps : List Str := ["self"]
theorem sc_Ratio_floor : FnScope Ratio_floor.N Ratio_floor.ps (defScope s_Ratio_floor) := ⟨rfl, rfl, rfl, by decide +kernel, rfl, by decide +kernel, by decide +kernel⟩
theorem ok_Ratio_floor (F : Fun K "floor" "Ratio.floor" s_Ratio_floor f fd) (O : Own K CR ["top", "below"]) :
    FnG P w K mg base CX0 1 f fd Ratio_floor.ps (spFloor CR) := by
  refine gbody F sc_Ratio_floor (fun vs H Q E h => ?_) (fun cdv A outer s H vs Q E hr hg h => ?_)
  · unfold spFloor at h
    obtain ⟨x, a, b, rfl, _⟩ := h
    rfl
  · unfold spFloor at h
    obtain ⟨x, a, b, rfl, ⟨dx, hx⟩, hb, h0, k⟩ := h
    refine ⟨_, (pss_one (ps_ret (pe_op op_fdivA (pe_fld (pv 0) rfl) (pe_fld (pv 0) rfl)))), ?_⟩
    have m1 : CDivA a b := hb.divA h0
    walk_at "rd"
    exact k
end
end K02

set_option Elab.async false
set_option linter.all false
set_option maxRecDepth 100000
set_option maxHeartbeats 2000000
namespace K02
open PySem L2 Lay RZ SkE Rat0
/-! ### reading steps -/
local macro_rules | `(tactic| walk_at "side") => `(tactic| first | rfl | decide | exact ⟨by decide, by decide, by decide⟩ | exact ⟨by omega, by omega, by decide⟩ | (unfold CMulW; decide +kernel) | assumption | omega | exact Nat.le_of_ble_eq_true rfl | (show (0 : Int) < _; first | assumption | decide | omega) | exact Or.inl ⟨by omega, by omega⟩ | exact Or.inr ⟨by omega, by omega⟩ | exact ⟨by omega, by decide⟩ | exact Or.inr ⟨by (split <;> omega), by (split <;> omega)⟩)
local macro_rules | `(tactic| walk_at "at") => `(tactic| first | rfl | assumption)
local macro_rules | `(tactic| walk_at "rd1") => `(tactic| first
  | (refine ⟨_, rfl, ?_⟩)
  | (refine ⟨_, _, rfl, rfl, ?_⟩)
  | (refine ⟨_, _, _, _, rfl, rfl, SqL.of (by assumption), (by walk_at "at"), ?_⟩)
  | (refine ⟨_, _, _, _, rfl, rfl, SqT.of (by assumption), (by walk_at "at"), ?_⟩)
  | (refine ⟨_, _, _, _, rfl, rfl, (by assumption), (by walk_at "at"), ?_⟩)
  | (refine ⟨_, _, rfl, SqT.of upd_same, rfl, ?_⟩)
  | (refine ⟨_, _, rfl, Or.inl (by first | assumption | exact SqL.of (by assumption)), ?_⟩)
  | (refine ⟨_, _, rfl, Or.inr (by first | assumption | exact SqT.of (by assumption)), ?_⟩)
  | (refine ⟨_, _, _, _, _, rfl, (by assumption), (by exact Own.cl (by assumption)), (by exact Own.no (by assumption) _ (by simp)), rfl, ?_⟩)
  | (refine ⟨_, _, _, rfl, (by assumption), rfl, ?_⟩)
  | (refine ⟨_, _, rfl, ?_⟩)
  | (refine ⟨_, _, _, rfl, ?_⟩)
  | (refine Or.inl ⟨_, rfl, ?_⟩)
  | (refine Or.inr ⟨_, rfl, ?_⟩)
  | (refine And.intro (by walk_at "side") ?_))
local macro_rules | `(tactic| walk_at "rd") => `(tactic| repeat walk_at "rd1")

theorem kb_Ratio_minus_0_other {K : PySem.W.Frag} {f : Addr} {fd : FuncData} (F : Fun K "minus" "Ratio.minus" s_Ratio_minus f fd) : KwB K fd Ratio_minus.ps 1 ["other"] (fun us ws => match us, ws with | [u0], [w0] => [u0, w0] | _, _ => []) (fun us ws => match us, ws with | [u0], [w0] => [u0, w0] | _, _ => []) := by
  obtain ⟨oc, od, kV, doc, pm, an, cdv, ct, osl, rfl, lk, hcd⟩ := F.ex
  refine ⟨fun s us ws _ h1 h2 => ?_, fun vs zs us ws h1 h2 r1 r2 => ?_⟩
  · match us, ws, h1, h2 with
    | [u0], [w0], _, _ => exact .of_eq rfl
  · match vs, zs, us, ws, h1, h2, r1, r2 with
    | [v0], [z0], [u0], [w0], _, _, .cons r0 (.nil), .cons q0 (.nil) => exact .cons r0 (.cons q0 (.nil))
theorem kb_Ratio_less_0_other {K : PySem.W.Frag} {f : Addr} {fd : FuncData} (F : Fun K "less" "Ratio.less" s_Ratio_less f fd) : KwB K fd Ratio_less.ps 1 ["other"] (fun us ws => match us, ws with | [u0], [w0] => [u0, w0] | _, _ => []) (fun us ws => match us, ws with | [u0], [w0] => [u0, w0] | _, _ => []) := by
  obtain ⟨oc, od, kV, doc, pm, an, cdv, ct, osl, rfl, lk, hcd⟩ := F.ex
  refine ⟨fun s us ws _ h1 h2 => ?_, fun vs zs us ws h1 h2 r1 r2 => ?_⟩
  · match us, ws, h1, h2 with
    | [u0], [w0], _, _ => exact .of_eq rfl
  · match vs, zs, us, ws, h1, h2, r1, r2 with
    | [v0], [z0], [u0], [w0], _, _, .cons r0 (.nil), .cons q0 (.nil) => exact .cons r0 (.cons q0 (.nil))
theorem RatAt.to {CR : Addr} {H : Hp} {x : Addr} {t b : Int} (h : RatAt CR H x t b) : ∃ dx, H x = some (.ins CR dx [("top", .int t), ("below", .int b)]) := h
@[irreducible] def spOverL (CR : Addr) : Sp := fun vs H Q _ => ∃ (x y : Addr) (a b c d : Int), vs = [.ref x, .ref y] ∧ RatAt CR H x a b ∧ RatAt CR H y c d ∧
  Bd 200 a ∧ Bd 200 b ∧ Bd 200 c ∧ Bd 200 d ∧ b ≠ 0 ∧
  (c ≠ 0 → ∀ p H', H p = none → Same H H' → RatAt CR H' p (lTop (a * d) (b * c)) (lBel (a * d) (b * c)) → Q (.ref p) H') ∧
  (c = 0 → ∀ H', Same H H' → Q (.int a) H')
theorem use_overL {CR : Addr} {H : Hp} {Q : VK} {E : XK} {x y : Addr} {a b c d : Int} (hx : RatAt CR H x a b) (hy : RatAt CR H y c d)
    (ha : Bd 200 a) (hb : Bd 200 b) (hc : Bd 200 c) (hd : Bd 200 d) (h0 : b ≠ 0)
    (k : c ≠ 0 → ∀ p H', H p = none → Same H H' → RatAt CR H' p (lTop (a * d) (b * c)) (lBel (a * d) (b * c)) → Q (.ref p) H')
    (k0 : c = 0 → ∀ H', Same H H' → Q (.int a) H') : spOverL CR ([.ref x, .ref y] ++ []) H Q E := by
  unfold spOverL
  exact ⟨x, y, a, b, c, d, rfl, hx, hy, ha, hb, hc, hd, h0, k, k0⟩
section
variable {P : Program} {w : World} {K : PySem.W.Frag} {mg : Str → Option Value} {base : Heap} {f : Addr} {fd : FuncData} {CR CN CG : Addr} {DI : Addr → FuncData → Prop}
abbrev s_over : Stmt := (top 13)
abbrev over.N : List Str := ["_law_one", "_law_its", "_law_told", "e"]
abbrev over.ps : List Str := ["_law_one", "_law_its"]
theorem sc_over : FnScope over.N over.ps (defScope s_over) := ⟨rfl, rfl, rfl, by decide +kernel, rfl, by decide +kernel, by decide +kernel⟩
theorem ok_over (F : Fun K "_law_over" "_law_over" s_over f fd) (X_NoRatio : ExcOk P w K mg base "NoRatio" CN ["top"] NoRatio_init.ps)
    (C_Ratio_over : Method P w K mg base (L2.CX P w) 5 CR "over" (dR s_Ratio_over "over" "Ratio.over" K) Ratio_over.ps (spOver CR CN)) :
    FnG P w K mg base CX0 6 f fd over.ps (spOverL CR) := by
  refine gbody F sc_over (fun vs H Q E h => ?_) (fun cdv A outer s H vs Q E hr hg h => ?_)
  · unfold spOverL at h
    obtain ⟨x, y, a, b, c, d, rfl, _⟩ := h
    rfl
  · unfold spOverL at h
    obtain ⟨x, y, a, b, c, d, rfl, hx, hy, ha, hb, hc, hd, h0, k, k0⟩ := h
    refine ⟨_, (pss_cons (ps_set (i := 2) sc_over.nd rfl (Or.inl rfl) pe_non)
      (pss_cons (ps_try_as (i := 3) rfl rfl sc_over.nd rfl rfl ⟨rfl, by decide, Or.inl X_NoRatio.mgx⟩ takes0 (fun W pn xe tk _ => by exact (pss_one (ps_set (i := 2) sc_over.nd rfl (Or.inl rfl) (C_Ratio_over.methE (pv 0) hr hg (fun σ => passAt tk σ) (pa_cons (pv 1) pa_nil))))) (fun a oe cls d pn hz hf => by exact (pss_one (ps_set (i := 2) sc_over.nd rfl (Or.inl rfl) (pe_xf X_NoRatio.xf (X_NoRatio.no "top" (by simp)) hz hf (pv 3))))))
      (pss_one (ps_ret (pv 2))))), ?_⟩
    obtain ⟨dx, hx'⟩ := id hx
    walk_at "rd"
    unfold spOver
    refine ⟨x, y, a, b, c, d, rfl, hx, hy, ha, hb, hc, hd, h0, fun hz p H' hp sm hr => ?_, fun hz e H' he sm hxd => ?_⟩
    · walk_at "rd"
      exact k hz p H' hp sm hr
    · refine ⟨true, X_NoRatio.te, fun _ u hu => ?_, fun z => by cases z⟩
      refine ⟨_, rfl, rfl, rfl, e, _, _, rfl, hxd, rfl, ?_⟩
      walk_at "rd"
      exact k0 hz H' sm
@[irreducible] def spRight (CR : Addr) : Sp := fun vs H Q _ => ∃ (x y : Addr) (a b c d : Int), vs = [.ref x, .ref y] ∧ RatAt CR H x a b ∧ RatAt CR H y c d ∧
  Bd 140 a ∧ Bd 140 b ∧ Bd 140 c ∧ Bd 140 d ∧ 0 < b ∧ 0 < d ∧ ∀ H', Same H H' → Q (.bl true) H'
theorem use_right {CR : Addr} {H : Hp} {Q : VK} {E : XK} {x y : Addr} {a b c d : Int} (hx : RatAt CR H x a b) (hy : RatAt CR H y c d)
    (ha : Bd 140 a) (hb : Bd 140 b) (hc : Bd 140 c) (hd : Bd 140 d) (h0 : 0 < b) (h1 : 0 < d) (k : ∀ H', Same H H' → Q (.bl true) H') : spRight CR ([.ref x, .ref y] ++ []) H Q E := by
  unfold spRight
  exact ⟨x, y, a, b, c, d, rfl, hx, hy, ha, hb, hc, hd, h0, h1, k⟩
theorem use_less {CR : Addr} {H : Hp} {Q : VK} {E : XK} {x y : Addr} {a b c d : Int} (hx : RatAt CR H x a b) (hy : RatAt CR H y c d)
    (ha : Bd 200 a) (hb : Bd 200 b) (hc : Bd 200 c) (hd : Bd 200 d) (k : Q (.bl (decide (a * d < c * b))) H) : spLess CR [.ref x, .ref y] H Q E := by
  unfold spLess
  exact ⟨x, y, a, b, c, d, rfl, hx, hy, ha, hb, hc, hd, k⟩
theorem use_floor {CR : Addr} {H : Hp} {Q : VK} {E : XK} {x : Addr} {a b : Int} (hx : RatAt CR H x a b) (hb : Bd 200 b) (h0 : b ≠ 0) (k : Q (.int (a.fdiv b)) H) : spFloor CR [.ref x] H Q E := by
  unfold spFloor
  exact ⟨x, a, b, rfl, hx, hb, h0, k⟩
theorem int_show {n : Nat} {i : Int} (h : Bd n i) (hn : n ≤ 1900 := by decide) : (PyData.int i).showable = true ∧ (PyData.int i).shown.length ≤ sizeLine :=
  ⟨decide_eq_true (bd_log h hn), shown_small (int_short (bd_log h hn)) (Nat.zero_le _)⟩
theorem bl_show (b : Bool) : (PyData.bool b).shown.length ≤ sizeLine := by cases b <;> decide +kernel
abbrev s_right : Stmt := (top 14)
abbrev right.N : List Str := ["_law_one", "_law_its", "_law_a", "_law_b", "_law_c", "_law_d", "_law_told", "_law_floor"]
abbrev right.ps : List Str := ["_law_one", "_law_its"]
theorem sc_right : FnScope right.N right.ps (defScope s_right) := ⟨rfl, rfl, rfl, by decide +kernel, rfl, by decide +kernel, by decide +kernel⟩
theorem ok_right (F : Fun K "_law_right" "_law_right" s_right f fd) (T : T02 mg) (O : Own K CR ["top", "below"])
    (C_Ratio_plus : Method P w K mg base CX0 5 CR "plus" (dR s_Ratio_plus "plus" "Ratio.plus" K) Ratio_plus.ps (spBin CR (fun a b c d => a * d + c * b) (fun a b c d => b * d)))
    (C_Ratio_minus : Method P w K mg base CX0 5 CR "minus" (dR s_Ratio_minus "minus" "Ratio.minus" K) Ratio_minus.ps (spBin CR (fun a b c d => a * d - c * b) (fun a b c d => b * d)))
    (C_Ratio_times : Method P w K mg base CX0 5 CR "times" (dR s_Ratio_times "times" "Ratio.times" K) Ratio_times.ps (spBin CR (fun a b c d => a * c) (fun a b c d => b * d)))
    (C_Ratio_less : Method P w K mg base CX0 1 CR "less" (dR s_Ratio_less "less" "Ratio.less" K) Ratio_less.ps (spLess CR))
    (C_Ratio_floor : Method P w K mg base CX0 1 CR "floor" (dR s_Ratio_floor "floor" "Ratio.floor" K) Ratio_floor.ps (spFloor CR))
    (C_is : Callee P w K mg base CX0 3 "_law_is" s_is is.ps (spIs CR)) (C_over : Callee P w K mg base CX0 6 "_law_over" s_over over.ps (spOverL CR)) :
    FnG P w K mg base CX0 7 f fd right.ps (spRight CR) := by
  refine gbody F sc_right (fun vs H Q E h => ?_) (fun cdv A outer s H vs Q E hr hg h => ?_)
  · unfold spRight at h
    obtain ⟨x, y, a, b, c, d, rfl, _⟩ := h
    rfl
  · unfold spRight at h
    obtain ⟨x, y, a, b, c, d, rfl, ⟨dx, hx⟩, ⟨dy, hy⟩, ha, hb, hc, hd, h0, h1, k⟩ := h
    refine ⟨_, (pss_cons (ps_asg (pe_tupN (pa_cons (pe_fld (pv 0) rfl) (pa_cons (pe_fld (pv 0) rfl) (pa_cons (pe_fld (pv 1) rfl) (pa_cons (pe_fld (pv 1) rfl) pa_nil))))) (pg_tup rfl (pgs_cons (pg_name (i := 2) sc_right.nd rfl (Or.inl rfl)) (pgs_cons (pg_name (i := 3) sc_right.nd rfl (Or.inl rfl)) (pgs_cons (pg_name (i := 4) sc_right.nd rfl (Or.inl rfl)) (pgs_cons (pg_name (i := 5) sc_right.nd rfl (Or.inl rfl)) pgs_nil))))))
      (pss_cons (ps_if (PW.pt (pw_or (pt_not (pt_val (C_is.call rfl hr hg (pa_cons (C_Ratio_plus.methE (pv 0) hr hg (atAll pass0) (pa_cons (pv 1) pa_nil)) (pa_cons (pe_op op_add (pe_op op_mulW (pv 2) (pv 5)) (pe_op op_mulW (pv 4) (pv 3))) (pa_cons (pe_op op_mulW (pv 3) (pv 5)) pa_nil)))))) (pw_or1 (pt_not (pt_val (C_is.call rfl hr hg (pa_cons (C_Ratio_minus.methKw0 (fun _ _ q => kb_Ratio_minus_0_other q) (pv 0) hr hg (atAll pass0) (pk_cons (pv 1) pk_nil)) (pa_cons (pe_op op_sub (pe_op op_mulW (pv 2) (pv 5)) (pe_op op_mulW (pv 4) (pv 3))) (pa_cons (pe_op op_mulW (pv 3) (pv 5)) pa_nil))))))))) (pss_one (ps_ret pe_bl)) pss_nil)
      (pss_cons (ps_if (pt_not (pt_val (C_is.call rfl hr hg (pa_cons (C_Ratio_times.methE (pv 0) hr hg (atAll pass0) (pa_cons (pv 1) pa_nil)) (pa_cons (pe_op op_mulW (pv 2) (pv 4)) (pa_cons (pe_op op_mulW (pv 3) (pv 5)) pa_nil)))))) (pss_one (ps_ret pe_bl)) pss_nil)
      (pss_cons (ps_cut (ps_set (i := 6) sc_right.nd rfl (Or.inl rfl) (C_over.call rfl hr hg (pa_cons (pv 0) (pa_cons (pv 1) pa_nil)))))
      (pss_cons (ps_cut (ps_if (PW.pt (pw_or (PW.pt (pw_and (pt_cmpR op_eqI (pv 4) pe_int (nomark _)) (pw_and1 (pt_cmpR op_ne (pe_callB (call_repr_any hg (room150 hr)) (by rfl) T.b_repr (by decide +kernel) (pa_cons (pv 6) pa_nil)) (pe_callB (call_repr_any hg (room150 hr)) (by rfl) T.b_repr (by decide +kernel) (pa_cons (pv 2) pa_nil)) (nomark _))))) (pw_or1 (PW.pt (pw_and (pt_cmpR op_neI (pv 4) pe_int (nomark _)) (pw_and1 (pt_not (pt_val (C_is.call rfl hr hg (pa_cons (pv 6) (pa_cons (pe_op op_mulW (pv 2) (pv 5)) (pa_cons (pe_op op_mulW (pv 3) (pv 4)) pa_nil)))))))))))) (pss_one (ps_ret pe_bl)) pss_nil))
      (pss_cons (ps_if (PW.pt (pw_or (pt_cmpR op_ne (pe_callB (call_repr_any hg (room150 hr)) (by rfl) T.b_repr (by decide +kernel) (pa_cons (C_Ratio_less.methKw0 (fun _ _ q => kb_Ratio_less_0_other q) (pv 0) hr hg (atAll pass0) (pk_cons (pv 1) pk_nil)) pa_nil)) (pe_callB (call_repr_any hg (room150 hr)) (by rfl) T.b_repr (by decide +kernel) (pa_cons (pe_cmpR op_lt (pe_op op_mulW (pv 2) (pv 5)) (pe_op op_mulW (pv 4) (pv 3)) (nomark _)) pa_nil)) (nomark _)) (pw_or1 (pt_cmpR op_ne (pe_callB (call_repr_any hg (room150 hr)) (by rfl) T.b_repr (by decide +kernel) (pa_cons (C_Ratio_less.methE (pv 1) hr hg (atAll pass0) (pa_cons (pv 0) pa_nil)) pa_nil)) (pe_callB (call_repr_any hg (room150 hr)) (by rfl) T.b_repr (by decide +kernel) (pa_cons (pe_cmpR op_lt (pe_op op_mulW (pv 4) (pv 3)) (pe_op op_mulW (pv 2) (pv 5)) (nomark _)) pa_nil)) (nomark _))))) (pss_one (ps_ret pe_bl)) pss_nil)
      (pss_cons (ps_set (i := 7) sc_right.nd rfl (Or.inl rfl) (C_Ratio_floor.methE0 (pv 0) hr hg (atAll pass0)))
      (pss_cons (ps_if (PW.pt (pw_or (pt_not (pt_val (pe_callB call_isi (by rfl) T.b_isinstance (by decide +kernel) (pa_cons (pv 7) (pa_cons (pe_bltn (v := .ty "int") (u := .type "int") (by rfl) T.b_int (by decide +kernel) rfl) pa_nil))))) (pw_or (pt_val (pe_callB call_isi (by rfl) T.b_isinstance (by decide +kernel) (pa_cons (pv 7) (pa_cons (pe_bltn (v := .ty "bool") (u := .type "bool") (by rfl) T.b_bool (by decide +kernel) rfl) pa_nil)))) (pw_or1 (pt_not (pt_chain op_le op_lt (pe_op op_mulW (pv 7) (pv 3)) (pv 2) (pe_op op_mulW (pe_op op_add (pv 7) pe_int) (pv 3)))))))) (pss_one (ps_ret pe_bl)) pss_nil)
      (pss_one (ps_ret (pe_cmpR (op_eqD hr.units) (pe_tupN (pa_cons (pe_fld (pv 0) rfl) (pa_cons (pe_fld (pv 0) rfl) (pa_cons (pe_fld (pv 1) rfl) (pa_cons (pe_fld (pv 1) rfl) pa_nil))))) (pe_tupN (pa_cons (pv 2) (pa_cons (pv 3) (pa_cons (pv 4) (pa_cons (pv 5) pa_nil))))) (nomark _)))))))))))), ?_⟩
    have m1 : CMulW a d := ha.mulW hd
    have m2 : CMulW c b := hc.mulW hb
    have m3 : CMulW b d := hb.mulW hd
    have m4 : CMulW a c := ha.mulW hc
    have m5 : CMulW b c := hb.mulW hc
    have ha2 : Bd 200 a := ha.mono (by decide)
    have hb2 : Bd 200 b := hb.mono (by decide)
    have hc2 : Bd 200 c := hc.mono (by decide)
    have hd2 : Bd 200 d := hd.mono (by decide)
    walk_at "rd"
    intro p H1 hp s1 hp1
    refine ⟨p, [.int a, .int b, .int c, .int d], rfl, SqT.of hp1, rfl, ?_⟩
    have hx1 := s1 _ _ hx
    have hy1 := s1 _ _ hy
    have hbd : b * d ≠ 0 := Int.mul_ne_zero (by omega) (by omega)
    walk_at "rd"
    refine use_bin ⟨dx, hx1⟩ ⟨dy, hy1⟩ ha2 hb2 hc2 hd2 hbd (fun p2 H2 hp2 s2 r2 => ?_)
    walk_at "rd"
    have e1 : Bd 1000 (a * d + c * b) := ((ha.mul hd).add (hc.mul hb)).mono (by decide)
    have e2 : Bd 1000 (a * d - c * b) := ((ha.mul hd).sub (hc.mul hb)).mono (by decide)
    have e3 : Bd 1000 (b * d) := (hb.mul hd).mono (by decide)
    have e4 : Bd 1000 (a * c) := (ha.mul hc).mono (by decide)
    have e5 : Bd 1000 (a * d) := (ha.mul hd).mono (by decide)
    have e6 : Bd 1000 (b * c) := (hb.mul hc).mono (by decide)
    refine use_is r2 e1 e3 hbd (fun H3 s3 => ?_)
    have hx3 := s3 _ _ (s2 _ _ hx1)
    have hy3 := s3 _ _ (s2 _ _ hy1)
    walk_at "rd"
    refine use_bin ⟨dx, hx3⟩ ⟨dy, hy3⟩ ha2 hb2 hc2 hd2 hbd (fun p4 H4 hp4 s4 r4 => ?_)
    walk_at "rd"
    refine use_is r4 e2 e3 hbd (fun H5 s5 => ?_)
    have hx5 := s5 _ _ (s4 _ _ hx3)
    have hy5 := s5 _ _ (s4 _ _ hy3)
    walk_at "rd"
    refine use_bin ⟨dx, hx5⟩ ⟨dy, hy5⟩ ha2 hb2 hc2 hd2 hbd (fun p6 H6 hp6 s6 r6 => ?_)
    walk_at "rd"
    refine use_is r6 e4 e3 hbd (fun H7 s7 => ?_)
    have hx7 := s7 _ _ (s6 _ _ hx5)
    have hy7 := s7 _ _ (s6 _ _ hy5)
    walk_at "rd"
    refine ⟨fun σ' H' => ∃ v : V, σ' = [some (.ref x), some (.ref y), some (.int a), some (.int b), some (.int c), some (.int d), some v, none] ∧ Same H7 H' ∧
      ((c ≠ 0 ∧ ∃ p, v = .ref p ∧ RatAt CR H' p (lTop (a * d) (b * c)) (lBel (a * d) (b * c))) ∨ (c = 0 ∧ v = .int a)), ?_, ?_⟩
    · walk_at "rd"
      refine use_overL ⟨dx, hx7⟩ ⟨dy, hy7⟩ ha2 hb2 hc2 hd2 (by omega) (fun hz p H8 _ s8 r8 => ?_) (fun hz H8 s8 => ?_)
      · exact ⟨_, rfl, s8, .inl ⟨hz, p, rfl, r8⟩⟩
      · exact ⟨_, rfl, s8, .inr ⟨hz, rfl⟩⟩
    · rintro σ8 H8 ⟨v, rfl, s8, hv⟩
      refine ⟨fun σ' H' => σ' = [some (.ref x), some (.ref y), some (.int a), some (.int b), some (.int c), some (.int d), some v, none] ∧ Same H8 H', ?_, ?_⟩
      · rcases hv with ⟨hz, p, rfl, r8⟩ | ⟨hz, rfl⟩
        · walk_at "rd"
          refine iteDF hz ?_
          walk_at "rd"
          refine iteNT hz ?_
          walk_at "rd"
          refine use_is r8 e5 e6 (Int.mul_ne_zero (by omega) hz) (fun H9 s9 => ?_)
          walk_at "rd"
          exact s9
        · obtain ⟨i1, i2⟩ := int_show ha
          walk_at "rd"
          refine iteDT hz ?_
          walk_at "rd"
          refine ⟨_, _, rfl, .int a, i1, rfl, i2, ?_⟩
          walk_at "rd"
          refine ⟨_, _, rfl, .int a, i1, rfl, i2, ?_⟩
          walk_at "rd"
          refine iteNF rfl ?_
          walk_at "rd"
          refine iteNF hz ?_
          walk_at "rd"
          exact fun _ _ z => z
      · rintro σ9 H9 ⟨rfl, s9⟩
        have hx9 := s9 _ _ (s8 _ _ hx7)
        have hy9 := s9 _ _ (s8 _ _ hy7)
        walk_at "rd"
        refine use_less ⟨dx, hx9⟩ ⟨dy, hy9⟩ ha2 hb2 hc2 hd2 ?_
        refine ⟨_, _, rfl, .bl _, rfl, rfl, bl_show _, ?_⟩
        walk_at "rd"
        refine ⟨_, _, rfl, .bl _, rfl, rfl, bl_show _, ?_⟩
        walk_at "rd"
        refine iteNF rfl ?_
        walk_at "rd"
        refine use_less ⟨dy, hy9⟩ ⟨dx, hx9⟩ hc2 hd2 ha2 hb2 ?_
        refine ⟨_, _, rfl, .bl _, rfl, rfl, bl_show _, ?_⟩
        walk_at "rd"
        refine ⟨_, _, rfl, .bl _, rfl, rfl, bl_show _, ?_⟩
        walk_at "rd"
        refine iteNF rfl ?_
        walk_at "rd"
        refine use_floor ⟨dx, hx9⟩ hb2 (by omega) ?_
        walk_at "rd"
        refine ⟨.int (a.fdiv b), .ty "int", .type "int", .type "int", true, rfl, .ty _, .base (.int _), rfl, ?_⟩
        walk_at "rd"
        refine ⟨.int (a.fdiv b), .ty "bool", .type "int", .type "bool", false, rfl, .ty _, .base (.int _), rfl, ?_⟩
        walk_at "rd"
        have hfe : a.fdiv b = a / b := Int.fdiv_eq_ediv_of_nonneg a (by omega)
        have hq : Bd 140 (a.fdiv b) := by
          rw [hfe]
          exact ha.le (Int.natAbs_ediv_le_natAbs a b)
        have q1 : a.fdiv b * b ≤ a := by rw [hfe]; exact Int.ediv_mul_le a (by omega)
        have q2 : a < (a.fdiv b + 1) * b := by rw [hfe]; exact Int.lt_ediv_add_one_mul_self a h0
        have m7 : CMulW (a.fdiv b) b := hq.mulW hb
        have m8 : CMulW (a.fdiv b + 1) b := (hq.add (by unfold Bd; decide : Bd 140 1)).mulW hb
        walk_at "rd"
        refine iteDT q1 ?_
        walk_at "rd"
        refine iteNF q2 ?_
        walk_at "rd"
        intro t1 G1 ht1 u1 g1
        have hx10 := u1 _ _ hx9
        have hy10 := u1 _ _ hy9
        walk_at "rd"
        intro t2 G2 ht2 u2 g2
        refine ⟨.tuple [.int a, .int b, .int c, .int d], .tuple [.int a, .int b, .int c, .int d], .tup (SqT.of (u2 _ _ g1)) (.cons (.int _) (.cons (.int _) (.cons (.int _) (.cons (.int _) .nil)))),
          .tup (SqT.of g2) (.cons (.int _) (.cons (.int _) (.cons (.int _) (.cons (.int _) .nil)))), rfl, rfl, ?_⟩
        have ev : PyData.eqv (.tuple [.int a, .int b, .int c, .int d]) (.tuple [.int a, .int b, .int c, .int d]) = true := by simp [PyData.eqv, PyData.eqvAll]
        rw [ev]
        exact k _ (fun b o e => u2 _ _ (u1 _ _ (s9 _ _ (s8 _ _ (s7 _ _ (s6 _ _ (s5 _ _ (s4 _ _ (s3 _ _ (s2 _ _ (s1 _ _ e)))))))))))
end
end K02

set_option Elab.async false
set_option linter.all false
set_option maxRecDepth 100000
set_option maxHeartbeats 2000000
namespace K02
open PySem L2 Lay RZ SkE Rat0
/-! ### reading steps -/
local macro_rules | `(tactic| walk_at "side") => `(tactic| first | rfl | decide | exact ⟨by decide, by decide, by decide⟩ | exact ⟨by omega, by omega, by decide⟩ | (unfold CMulW; decide +kernel) | assumption | omega | exact Nat.le_of_ble_eq_true rfl | (show (0 : Int) < _; first | assumption | decide | omega) | exact Or.inl ⟨by omega, by omega⟩ | exact Or.inr ⟨by omega, by omega⟩ | exact ⟨by omega, by decide⟩ | exact Or.inr ⟨by (split <;> omega), by (split <;> omega)⟩)
local macro_rules | `(tactic| walk_at "at") => `(tactic| first | rfl | assumption)
local macro_rules | `(tactic| walk_at "rd1") => `(tactic| first
  | (refine ⟨_, rfl, ?_⟩)
  | (refine ⟨_, _, rfl, rfl, ?_⟩)
  | (refine ⟨_, _, _, _, rfl, rfl, SqL.of (by assumption), (by walk_at "at"), ?_⟩)
  | (refine ⟨_, _, _, _, rfl, rfl, SqT.of (by assumption), (by walk_at "at"), ?_⟩)
  | (refine ⟨_, _, _, _, rfl, rfl, (by assumption), (by walk_at "at"), ?_⟩)
  | (refine ⟨_, _, rfl, SqT.of upd_same, rfl, ?_⟩)
  | (refine ⟨_, _, rfl, Or.inl (by first | assumption | exact SqL.of (by assumption)), ?_⟩)
  | (refine ⟨_, _, rfl, Or.inr (by first | assumption | exact SqT.of (by assumption)), ?_⟩)
  | (refine ⟨_, _, _, _, _, rfl, (by assumption), (by exact Own.cl (by assumption)), (by exact Own.no (by assumption) _ (by simp)), rfl, ?_⟩)
  | (refine ⟨_, _, _, rfl, (by assumption), rfl, ?_⟩)
  | (refine ⟨_, _, rfl, ?_⟩)
  | (refine ⟨_, _, _, rfl, ?_⟩)
  | (refine Or.inl ⟨_, rfl, ?_⟩)
  | (refine Or.inr ⟨_, rfl, ?_⟩)
  | (refine And.intro (by walk_at "side") ?_))
local macro_rules | `(tactic| walk_at "rd") => `(tactic| repeat walk_at "rd1")

theorem atI_int {ls : List Int} {i : Int} (P : Int → Prop) (h0 : 0 ≤ i) (h1 : i < ls.length) (h : ∀ z ∈ ls, P z) : ∃ z, atI (ls.map V.int) i = some (.int z) ∧ P z := by
  obtain ⟨v, hv, hm⟩ := atI_mem (xs := ls.map V.int) h0 (by rw [List.length_map]; exact h1)
  obtain ⟨z, hz, rfl⟩ := List.mem_map.mp hm
  exact ⟨z, hv, h z hz⟩
@[irreducible] def spRatio (CR : Addr) : Sp := fun vs H Q _ => ∃ (a : Addr) (c : Int), vs = [.ref a] ∧ PotAt H a c ∧ c ≤ 800000 ∧
  ∀ (H' : Hp) (p : Addr) (t b : Int), But [a] H H' → PotAt H' a (c + 19) → RatAt CR H' p t b → Bd 139 t → Bd 139 b → 0 < b → Q (.ref p) H'
theorem use_ratio {CR : Addr} {H : Hp} {Q : VK} {E : XK} {a : Addr} (c : Int) (hP : PotAt H a c) (hc : c ≤ 800000)
    (k : ∀ (H' : Hp) (p : Addr) (t b : Int), But [a] H H' → PotAt H' a (c + 19) → RatAt CR H' p t b → Bd 139 t → Bd 139 b → 0 < b → Q (.ref p) H') : spRatio CR ([.ref a] ++ []) H Q E := by
  unfold spRatio
  exact ⟨a, c, rfl, hP, hc, k⟩
theorem bd_num {z : Int} (h : z.natAbs ≤ 10 ^ 40) : Bd 139 z := Nat.lt_of_le_of_lt h (by decide)
section
variable {P : Program} {w : World} {K : PySem.W.Frag} {mg : Str → Option Value} {base : Heap} {f : Addr} {fd : FuncData} {CR CN CG : Addr} {DI : Addr → FuncData → Prop}
abbrev s_ratio : Stmt := (top 15)
abbrev ratio.N : List Str := ["_law_pot", "_law_low"]
abbrev ratio.ps : List Str := ["_law_pot"]
theorem sc_ratio : FnScope ratio.N ratio.ps (defScope s_ratio) := ⟨rfl, rfl, rfl, by decide +kernel, rfl, by decide +kernel, by decide +kernel⟩
theorem ok_ratio (F : Fun K "_law_ratio" "_law_ratio" s_ratio f fd) (C_draw : Callee P w K mg base CX0 1 "_law_draw" s_draw draw.ps spDraw) (C_number : Callee P w K mg base CX0 2 "_law_number" s_number number.ps spNumber)
    (C_Ratio : Maker P w K mg base (L2.CX P w) 3 "Ratio" CR DI Ratio_init.ps (spRInit CR CN)) :
    FnG P w K mg base CX0 5 f fd ratio.ps (spRatio CR) := by
  refine gbody F sc_ratio (fun vs H Q E h => ?_) (fun cdv A outer s H vs Q E hr hg h => ?_)
  · unfold spRatio at h
    obtain ⟨a, c, rfl, _⟩ := h
    rfl
  · unfold spRatio at h
    obtain ⟨a, c, rfl, hP, hc, k⟩ := h
    refine ⟨_, (pss_cons (ps_set (i := 1) sc_ratio.nd rfl (Or.inl rfl) (pe_ix ix_list (pe_lstN (pa_cons pe_int (pa_cons pe_int (pa_cons pe_int (pa_cons pe_int (pa_cons (C_number.call rfl hr hg (pa_cons (pv 0) pa_nil)) pa_nil)))))) (C_draw.call rfl hr hg (pa_cons (pv 0) (pa_cons pe_int pa_nil))) (fun _ _ => rfl)))
      (pss_one (ps_ret (C_Ratio.makeE rfl hr hg (atAll passL) (pa_cons (C_number.call rfl hr hg (pa_cons (pv 0) pa_nil)) (pa_cons (pe_cut (pe_ifExp (pt_cmpR op_neI (pv 1) pe_int (nomark _)) (pv 1) pe_int)) pa_nil)))))), ?_⟩
    walk_at "rd"
    refine use_number c hP (by omega) (fun H1 z b1 P1 hz => ?_)
    walk_at "rd"
    intro l H2 hl s2 hl2
    have P2 := P1.same s2
    have nl := P1.ne hl
    walk_at "rd"
    refine use_draw 5 (c + 9) P2 (by omega) (by decide) (by decide) (fun H3 d b3 P3 d0 d1 => ?_)
    have hl3 := b3 _ _ (nin1 nl.symm) hl2
    have B3 : But [a] H H3 := (b1.trans (But.of _ s2)).trans b3
    obtain ⟨y, hy, by'⟩ := atI_int (ls := [1, 2, 3, 12, z]) (fun y => y.natAbs ≤ 10 ^ 40) d0 d1 (by
      intro y hm
      simp only [List.mem_cons, List.not_mem_nil, or_false] at hm
      rcases hm with rfl | rfl | rfl | rfl | rfl <;> first | assumption | decide)
    refine ⟨l, _, _, _, rfl, rfl, SqL.of hl3, hy, ?_⟩
    walk_at "rd"
    refine use_number (c + 9 + 1) P3 (by omega) (fun H4 t b4 P4 ht => ?_)
    walk_at "rd"
    refine ⟨fun v H' => H' = H4 ∧ ∃ y : Int, v = .int y ∧ y ≠ 0 ∧ y.natAbs ≤ 10 ^ 40, ?_, ?_⟩
    · walk_at "rd"
      refine iteN (fun hz => ?_) (fun hz => ?_)
      · walk_at "rd"
        exact by'
      · walk_at "rd"
        decide
    · rintro v H5 ⟨rfl, y', rfl, hy0, hyb⟩
      walk_at "rd"
      refine use_make ((bd_num ht).mono (by decide)) ((bd_num hyb).mono (by decide)) (fun _ p H6 hp s6 r6 => ⟨rfl, ?_⟩) (fun z => absurd z hy0)
      refine k H6 p _ _ ((B3.trans b4).trans (But.of _ s6)) ((P4.same s6).mono (by omega)) r6 ((bd_num ht).le (lTop_le hy0)) ((bd_num hyb).le (lBel_le hy0)) (lBel_pos hy0)

@[irreducible] def spLaw (K : PySem.W.Frag) : Sp := fun vs H Q _ => ∃ (a : Addr) (ns : List Int), vs = [.ref a] ∧ SqL K H a (ns.map V.int) ∧ ns.length ≤ 63 ∧ ∀ H', Q (.bl true) H'
theorem law_asks {K : PySem.W.Frag} {H : Hp} {a : Addr} {ns : List Int} (hl : ns.length ≤ 63) (hS : SqL K H a (ns.map V.int)) : spLaw K [.ref a] H (fun v _ => v = .bl true) fun _ _ _ => False := by
  unfold spLaw
  exact ⟨a, ns, rfl, hS, hl, fun _ => rfl⟩
/-- the two ratios, behind each change -/
structure Two (CR : Addr) (p x : Addr) (t b cc : Int) (H2 H' : Hp) (y : Addr) (c d : Int) : Prop where
  bt : But [p] H2 H'
  P : PotAt H' p cc
  rx : RatAt CR H' x t b
  ry : RatAt CR H' y c d
  bc : Bd 140 c
  bd : Bd 140 d
  d0 : 0 < d
abbrev s_law : Stmt := (top 16)
abbrev law.N : List Str := ["_law_script", "_law_k", "_law_pot", "_law_tour", "_law_way", "_law_one", "_law_its"]
abbrev law.ps : List Str := ["_law_script"]
theorem sc_law : FnScope law.N law.ps (defScope s_law) := ⟨rfl, rfl, rfl, by decide +kernel, rfl, by decide +kernel, by decide +kernel⟩
theorem ok_law (F : Fun K "law" "law" s_law f fd) (T : T02 mg) (O : Own K CR ["top", "below"]) (C_begin : Callee P w K mg base CX0 1 "_law_begin" s_begin begin.ps (spBegin K)) (C_draw : Callee P w K mg base CX0 1 "_law_draw" s_draw draw.ps spDraw)
    (C_ratio : Callee P w K mg base CX0 5 "_law_ratio" s_ratio ratio.ps (spRatio CR)) (C_right : Callee P w K mg base CX0 7 "_law_right" s_right right.ps (spRight CR))
    (C_Ratio : Maker P w K mg base (L2.CX P w) 3 "Ratio" CR DI Ratio_init.ps (spRInit CR CN)) : FnG P w K mg base CX0 8 f fd law.ps (spLaw K) := by
  refine gbody F sc_law (fun vs H Q E h => ?_) (fun cdv A outer s H vs Q E hr hg h => ?_)
  · unfold spLaw at h
    obtain ⟨a, ns, rfl, _⟩ := h
    rfl
  · unfold spLaw at h
    obtain ⟨a, ns, rfl, hS, hn, kk⟩ := h
    refine ⟨_, (pss_cons (ps_for PassesOwn.never rfl (pi_range1 rfl T.b_range (pa_cons (pe_op op_add pe_int (pe_callB call_len_seq (by rfl) T.b_len PySem.boot_len (pa_cons (pe_slice sl_listN (pv 0) po_none (po_some pe_int)) pa_nil))) pa_nil)) (pg_name (i := 1) sc_law.nd rfl (Or.inl rfl)) (pss_cons (ps_set (i := 2) sc_law.nd rfl (Or.inl rfl) (C_begin.call rfl hr hg (pa_cons (pv 0) (pa_cons (pv 1) pa_nil))))
      (pss_one (ps_for PassesOwn.never rfl (pi_range1 rfl T.b_range (pa_cons pe_int pa_nil)) (pg_name (i := 3) sc_law.nd rfl (Or.inl rfl)) (pss_cons (ps_par3 (i := 4) (j := 5) (l := 6) rfl sc_law.nd rfl rfl rfl (by decide) (by decide) (by decide) rfl rfl rfl (pa_cons (C_draw.call rfl hr hg (pa_cons (pv 2) (pa_cons pe_int pa_nil))) (pa_cons (C_ratio.call rfl hr hg (pa_cons (pv 2) pa_nil)) (pa_cons (C_ratio.call rfl hr hg (pa_cons (pv 2) pa_nil)) pa_nil))) (by rfl))
      (pss_cons (ps_cut (ps_if (pt_cmpR op_eqI (pv 4) pe_int (nomark _)) (pss_one (ps_set (i := 6) sc_law.nd rfl (Or.inl rfl) (C_Ratio.makeE rfl hr hg (atAll passL) (pa_cons (pe_fld (pv 5) rfl) (pa_cons (pe_fld (pv 5) rfl) pa_nil))))) pss_nil))
      (pss_cons (ps_cut (ps_if (pt_cmpR op_eqI (pv 4) pe_int (nomark _)) (pss_one (ps_set (i := 6) sc_law.nd rfl (Or.inl rfl) (C_Ratio.makeE rfl hr hg (atAll passL) (pa_cons (pe_op op_sub (pe_op op_add (pe_fld (pv 5) rfl) pe_int) (pe_op op_mul pe_int (C_draw.call rfl hr hg (pa_cons (pv 2) (pa_cons pe_int pa_nil))))) (pa_cons (pe_fld (pv 5) rfl) pa_nil))))) pss_nil))
      (pss_cons (ps_cut (ps_if (pt_cmpR op_eqI (pv 4) pe_int (nomark _)) (pss_one (ps_set (i := 6) sc_law.nd rfl (Or.inl rfl) (C_Ratio.makeE rfl hr hg (atAll passL) (pa_cons pe_int (pa_cons (pe_op op_add pe_int (C_draw.call rfl hr hg (pa_cons (pv 2) (pa_cons pe_int pa_nil)))) pa_nil))))) pss_nil))
      (pss_one (ps_if (PW.pt (pw_or (pt_not (pt_val (C_right.call rfl hr hg (pa_cons (pv 5) (pa_cons (pv 6) pa_nil))))) (pw_or1 (pt_not (pt_val (C_right.call rfl hr hg (pa_cons (pv 6) (pa_cons (pv 5) pa_nil)))))))) (pss_one (ps_ret pe_bl)) pss_nil))))))))))
      (pss_one (ps_ret pe_bl))), ?_⟩
    walk_at "rd"
    refine ⟨a, _, rfl, hS, fun q H1 hq s1 hq1 => ?_⟩
    rw [show (6 : Int) = ((6 : Nat) : Int) from rfl] at hq1
    rw [cut_ints] at hq1
    refine ⟨_, _, rfl, Or.inl (SqL.of hq1), ?_⟩
    have hm : (List.map V.int (List.take 6 ns)).length ≤ 6 := by rw [List.length_map, List.length_take]; omega
    generalize (List.map V.int (List.take 6 ns)).length = m at hm ⊢
    walk_at "rd"
    refine for_range (lo := 0) (n := (1 + (m : Int)).toNat) (fun i σ H' => Box (∃ v1 v2 v3 v4 v5 v6 : Option V, σ = [some (.ref a), v1, v2, v3, v4, v5, v6] ∧ Same H H')) ?_ ?_ ?_
    · exact .of ⟨none, none, none, none, none, none, rfl, s1⟩
    · rintro i σ H2 hi ⟨_, v1, v2, v3, v4, v5, v6, rfl, sm⟩
      have hS2 := Same.seq sm hS
      walk_at "rd"
      refine use_begin ns i (by omega) hS2 (by omega) (fun H3 p s3 np P3 => ?_)
      walk_at "rd"
      refine for_range (lo := 0) (n := 8) (fun u σ H' => Box (∃ w3 w4 w5 w6 : Option V, σ = [some (.ref a), some (.int (0 + (i : Int))), some (.ref p), w3, w4, w5, w6] ∧ But [p] H3 H' ∧ PotAt H' p (42 * u))) ?_ ?_ ?_
      · exact .of ⟨v3, v4, v5, v6, rfl, But.refl _ _, P3.mono (by omega)⟩
      · rintro u σ H4 hu ⟨_, w3, w4, w5, w6, rfl, b4, P4⟩
        walk_at "rd"
        refine use_draw 5 (42 * u) P4 (by omega) (by decide) (by decide) (fun H5 way b5 P5 way0 way1 => ?_)
        walk_at "rd"
        refine use_ratio (42 * u + 1) P5 (by omega) (fun H6 x t b b6 P6 rx bt bb hb0 => ?_)
        walk_at "rd"
        refine use_ratio (42 * u + 1 + 19) P6 (by omega) (fun H7 y c d b7 P7 ry bc bd hd0 => ?_)
        have hxp := rx.notPot P6
        have rx7 := rx.but b7 hxp
        have B7 := ((b4.trans b5).trans b6).trans b7
        walk_at "rd"
        refine ⟨fun σ' H' => ∃ (y : Addr) (c d : Int), σ' = [some (.ref a), some (.int (0 + (i : Int))), some (.ref p), some (.int (0 + (u : Int))), some (.int way), some (.ref x), some (.ref y)] ∧ Two CR p x t b (42 * u + 39) H3 H' y c d, ?_, ?_⟩
        · obtain ⟨dx, hx⟩ := rx7
          walk_at "rd"
          refine iteD (fun hz => ?_) (fun hz => ?_)
          · walk_at "rd"
            refine use_make (bt.mono (by decide)) (bb.mono (by decide)) (fun _ z H8 hz8 s8 r8 => ⟨rfl, ?_⟩) (fun z => absurd z (by omega))
            exact ⟨z, _, _, rfl, B7.trans (But.of _ s8), (P7.same s8).mono (by omega), RatAt.same ⟨dx, hx⟩ s8, r8, (bt.mono (by decide)).le (lTop_le (by omega)), (bb.mono (by decide)).le (lBel_le (by omega)), lBel_pos (by omega)⟩
          · exact ⟨y, c, d, rfl, B7, P7.mono (by omega), ⟨dx, hx⟩, ry, bc.mono (by decide), bd.mono (by decide), hd0⟩
        · rintro σ8 H8 ⟨y, c, d, rfl, T8⟩
          refine ⟨fun σ' H' => ∃ (y : Addr) (c d : Int), σ' = [some (.ref a), some (.int (0 + (i : Int))), some (.ref p), some (.int (0 + (u : Int))), some (.int way), some (.ref x), some (.ref y)] ∧ Two CR p x t b (42 * u + 40) H3 H' y c d, ?_, ?_⟩
          · obtain ⟨dx, hx⟩ := T8.rx
            walk_at "rd"
            refine iteD (fun hz => ?_) (fun hz => ?_)
            · walk_at "rd"
              refine use_draw 2 (42 * u + 39) T8.P (by omega) (by decide) (by decide) (fun H9 e b9 P9 e0 e1 => ?_)
              have hx9 := b9 _ _ (nin1 hxp) hx
              walk_at "rd"
              have bt1 : Bd 140 (t + 1 - 2 * e) := by
                have h1 : t.natAbs < 2 ^ 139 := bt
                show (t + 1 - 2 * e).natAbs < 2 ^ 140
                omega
              refine use_make (bt1.mono (by decide)) (bb.mono (by decide)) (fun _ z H10 hz8 s8 r8 => ⟨rfl, ?_⟩) (fun z => absurd z (by omega))
              exact ⟨z, _, _, rfl, (T8.bt.trans b9).trans (But.of _ s8), (P9.same s8).mono (by omega), RatAt.same ⟨dx, hx9⟩ s8, r8, bt1.le (lTop_le (by omega)), (bb.mono (by decide)).le (lBel_le (by omega)), lBel_pos (by omega)⟩
            · exact ⟨y, c, d, rfl, T8.bt, T8.P.mono (by omega), ⟨dx, hx⟩, T8.ry, T8.bc, T8.bd, T8.d0⟩
          · rintro σ9 H9 ⟨y, c, d, rfl, T9⟩
            refine ⟨fun σ' H' => ∃ (y : Addr) (c d : Int), σ' = [some (.ref a), some (.int (0 + (i : Int))), some (.ref p), some (.int (0 + (u : Int))), some (.int way), some (.ref x), some (.ref y)] ∧ Two CR p x t b (42 * u + 41) H3 H' y c d, ?_, ?_⟩
            · obtain ⟨dx, hx⟩ := T9.rx
              walk_at "rd"
              refine iteD (fun hz => ?_) (fun hz => ?_)
              · walk_at "rd"
                refine use_draw 9 (42 * u + 40) T9.P (by omega) (by decide) (by decide) (fun H10 e b10 P10 e0 e1 => ?_)
                have hx10 := b10 _ _ (nin1 hxp) hx
                walk_at "rd"
                have be : Bd 140 (1 + e) := by
                  show (1 + e).natAbs < 2 ^ 140
                  omega
                have bz : Bd 140 0 := by unfold Bd; decide
                refine use_make (bz.mono (by decide)) (be.mono (by decide)) (fun _ z H11 hz8 s8 r8 => ⟨rfl, ?_⟩) (fun z => absurd z (by omega))
                exact ⟨z, _, _, rfl, (T9.bt.trans b10).trans (But.of _ s8), (P10.same s8).mono (by omega), RatAt.same ⟨dx, hx10⟩ s8, r8, bz.le (lTop_le (by omega)), be.le (lBel_le (by omega)), lBel_pos (by omega)⟩
              · exact ⟨y, c, d, rfl, T9.bt, T9.P.mono (by omega), ⟨dx, hx⟩, T9.ry, T9.bc, T9.bd, T9.d0⟩
            · rintro σ10 H10 ⟨y, c, d, rfl, T10⟩
              walk_at "rd"
              refine use_right T10.rx T10.ry (bt.mono (by decide)) (bb.mono (by decide)) T10.bc T10.bd hb0 T10.d0 (fun H11 s11 => ?_)
              walk_at "rd"
              refine use_right (T10.ry.same s11) (T10.rx.same s11) T10.bc T10.bd (bt.mono (by decide)) (bb.mono (by decide)) T10.d0 hb0 (fun H12 s12 => ?_)
              walk_at "rd"
              exact .of ⟨_, _, _, _, rfl, T10.bt.trans (But.of _ (s11.trans s12)), (T10.P.same (s11.trans s12)).mono (by omega)⟩
      · rintro σ H4 ⟨_, w3, w4, w5, w6, rfl, b4, P4⟩
        walk_at "rd"
        exact .of ⟨_, _, _, _, _, _, rfl, sm.trans (fun b o e => same_but s3 np b4 b o e)⟩
    · rintro σ H2 ⟨_, v1, v2, v3, v4, v5, v6, rfl, sm⟩
      walk_at "rd"
      exact kk _
end
end K02

set_option Elab.async false
set_option linter.all false
set_option maxRecDepth 100000
set_option maxHeartbeats 2000000
namespace K02
open PySem L2 Lay RZ SkE Rat0
theorem bd_NoRatio_init {K : PySem.W.Frag} {f : Addr} {fd : FuncData} (F : Fun K "__init__" "NoRatio.__init__" s_NoRatio_init f fd) : Binds K fd NoRatio_init.ps [] :=
  F.binds fun _ _ _ _ _ _ us hl => match us, hl with | [_, _], _ => rfl
theorem bd_common_part {K : PySem.W.Frag} {f : Addr} {fd : FuncData} (F : Fun K "common_part" "common_part" s_common_part f fd) : Binds K fd common_part.ps [] :=
  F.binds fun _ _ _ _ _ _ us hl => match us, hl with | [_, _], _ => rfl
theorem bd_Ratio_init {K : PySem.W.Frag} {f : Addr} {fd : FuncData} {dvs : List V} (hd : dvs.length = 1) (F : FunD K "__init__" "Ratio.__init__" (defArgs s_Ratio_init) (defBody s_Ratio_init) (defScope s_Ratio_init) dvs [] f fd) : Binds K fd Ratio_init.ps [] := by
  match dvs, hd with
  | [_], _ =>
    obtain ⟨ds, r, b⟩ := F.binds1 (ps := Ratio_init.ps) 3 1 (List.cons_ne_nil _ _) rfl (fun T kV doc pm an cdv ct us its hl hi => match us, its, hl, hi with | [_, _, _], [_], _, _ => ⟨_, rfl, by rfl⟩)
    cases r
    exact b
theorem bd_Ratio_plus {K : PySem.W.Frag} {f : Addr} {fd : FuncData} (F : Fun K "plus" "Ratio.plus" s_Ratio_plus f fd) : Binds K fd Ratio_plus.ps [] :=
  F.binds fun _ _ _ _ _ _ us hl => match us, hl with | [_, _], _ => rfl
theorem bd_Ratio_minus {K : PySem.W.Frag} {f : Addr} {fd : FuncData} (F : Fun K "minus" "Ratio.minus" s_Ratio_minus f fd) : Binds K fd Ratio_minus.ps [] :=
  F.binds fun _ _ _ _ _ _ us hl => match us, hl with | [_, _], _ => rfl
theorem bd_Ratio_times {K : PySem.W.Frag} {f : Addr} {fd : FuncData} (F : Fun K "times" "Ratio.times" s_Ratio_times f fd) : Binds K fd Ratio_times.ps [] :=
  F.binds fun _ _ _ _ _ _ us hl => match us, hl with | [_, _], _ => rfl
theorem bd_Ratio_over {K : PySem.W.Frag} {f : Addr} {fd : FuncData} (F : Fun K "over" "Ratio.over" s_Ratio_over f fd) : Binds K fd Ratio_over.ps [] :=
  F.binds fun _ _ _ _ _ _ us hl => match us, hl with | [_, _], _ => rfl
theorem bd_Ratio_less {K : PySem.W.Frag} {f : Addr} {fd : FuncData} (F : Fun K "less" "Ratio.less" s_Ratio_less f fd) : Binds K fd Ratio_less.ps [] :=
  F.binds fun _ _ _ _ _ _ us hl => match us, hl with | [_, _], _ => rfl
theorem bd_Ratio_floor {K : PySem.W.Frag} {f : Addr} {fd : FuncData} (F : Fun K "floor" "Ratio.floor" s_Ratio_floor f fd) : Binds K fd Ratio_floor.ps [] :=
  F.binds fun _ _ _ _ _ _ us hl => match us, hl with | [_], _ => rfl
theorem bd_begin {K : PySem.W.Frag} {f : Addr} {fd : FuncData} (F : Fun K "_law_begin" "_law_begin" s_begin f fd) : Binds K fd begin.ps [] :=
  F.binds fun _ _ _ _ _ _ us hl => match us, hl with | [_, _], _ => rfl
theorem bd_draw {K : PySem.W.Frag} {f : Addr} {fd : FuncData} (F : Fun K "_law_draw" "_law_draw" s_draw f fd) : Binds K fd draw.ps [] :=
  F.binds fun _ _ _ _ _ _ us hl => match us, hl with | [_, _], _ => rfl
theorem bd_number {K : PySem.W.Frag} {f : Addr} {fd : FuncData} (F : Fun K "_law_number" "_law_number" s_number f fd) : Binds K fd number.ps [] :=
  F.binds fun _ _ _ _ _ _ us hl => match us, hl with | [_], _ => rfl
theorem bd_common {K : PySem.W.Frag} {f : Addr} {fd : FuncData} (F : Fun K "_law_common" "_law_common" s_common f fd) : Binds K fd common.ps [] :=
  F.binds fun _ _ _ _ _ _ us hl => match us, hl with | [_, _], _ => rfl
theorem bd_least {K : PySem.W.Frag} {f : Addr} {fd : FuncData} (F : Fun K "_law_least" "_law_least" s_least f fd) : Binds K fd least.ps [] :=
  F.binds fun _ _ _ _ _ _ us hl => match us, hl with | [_, _], _ => rfl
theorem bd_is {K : PySem.W.Frag} {f : Addr} {fd : FuncData} (F : Fun K "_law_is" "_law_is" s_is f fd) : Binds K fd is.ps [] :=
  F.binds fun _ _ _ _ _ _ us hl => match us, hl with | [_, _, _], _ => rfl
theorem bd_over {K : PySem.W.Frag} {f : Addr} {fd : FuncData} (F : Fun K "_law_over" "_law_over" s_over f fd) : Binds K fd over.ps [] :=
  F.binds fun _ _ _ _ _ _ us hl => match us, hl with | [_, _], _ => rfl
theorem bd_right {K : PySem.W.Frag} {f : Addr} {fd : FuncData} (F : Fun K "_law_right" "_law_right" s_right f fd) : Binds K fd right.ps [] :=
  F.binds fun _ _ _ _ _ _ us hl => match us, hl with | [_, _], _ => rfl
theorem bd_ratio {K : PySem.W.Frag} {f : Addr} {fd : FuncData} (F : Fun K "_law_ratio" "_law_ratio" s_ratio f fd) : Binds K fd ratio.ps [] :=
  F.binds fun _ _ _ _ _ _ us hl => match us, hl with | [_], _ => rfl
theorem all_mk {l : PySem.W.OpenLaw} {w : World} {K : PySem.W.Frag} {h : Heap} {mg : Str → Option Value} {fa : Addr} (X : K.In h) (G : h.Ns mainGlobals mg) (hfa : mg "law" = some (.ref fa))
    {CR CN CG : Addr}
    {nm_NoRatio q_NoRatio : Str} {N_NoRatio : Addr} {bs_NoRatio bm_NoRatio sub_NoRatio : List Value} {sn_NoRatio : List Str} {ab_NoRatio : Bool} {col_NoRatio : Option Bool} {dd_NoRatio : Option Addr} {m0_NoRatio m1_NoRatio m2_NoRatio m3_NoRatio m5_NoRatio : Option Value}
    {f_NoRatio_init : Addr} {oc_NoRatio_init kV_NoRatio_init dc_NoRatio_init pm_NoRatio_init cd_NoRatio_init ct_NoRatio_init : Value} {od_NoRatio_init an_NoRatio_init : Option Addr} {sl_NoRatio_init : Array (Option Value)}
    {f_common_part : Addr} {oc_common_part kV_common_part dc_common_part pm_common_part cd_common_part ct_common_part : Value} {od_common_part an_common_part : Option Addr} {sl_common_part : Array (Option Value)}
    {f_Ratio_init : Addr} {oc_Ratio_init kV_Ratio_init dc_Ratio_init pm_Ratio_init cd_Ratio_init ct_Ratio_init : Value} {od_Ratio_init an_Ratio_init : Option Addr} {sl_Ratio_init : Array (Option Value)}
    {T_Ratio_init nT_Ratio_init : Nat} {oT_Ratio_init : Value} {odT_Ratio_init : Option Addr} {slT_Ratio_init : Array (Option Value)} {tk_Ratio_init_0 : Tok}
    {f_Ratio_plus : Addr} {oc_Ratio_plus kV_Ratio_plus dc_Ratio_plus pm_Ratio_plus cd_Ratio_plus ct_Ratio_plus : Value} {od_Ratio_plus an_Ratio_plus : Option Addr} {sl_Ratio_plus : Array (Option Value)}
    {f_Ratio_minus : Addr} {oc_Ratio_minus kV_Ratio_minus dc_Ratio_minus pm_Ratio_minus cd_Ratio_minus ct_Ratio_minus : Value} {od_Ratio_minus an_Ratio_minus : Option Addr} {sl_Ratio_minus : Array (Option Value)}
    {f_Ratio_times : Addr} {oc_Ratio_times kV_Ratio_times dc_Ratio_times pm_Ratio_times cd_Ratio_times ct_Ratio_times : Value} {od_Ratio_times an_Ratio_times : Option Addr} {sl_Ratio_times : Array (Option Value)}
    {f_Ratio_over : Addr} {oc_Ratio_over kV_Ratio_over dc_Ratio_over pm_Ratio_over cd_Ratio_over ct_Ratio_over : Value} {od_Ratio_over an_Ratio_over : Option Addr} {sl_Ratio_over : Array (Option Value)}
    {f_Ratio_less : Addr} {oc_Ratio_less kV_Ratio_less dc_Ratio_less pm_Ratio_less cd_Ratio_less ct_Ratio_less : Value} {od_Ratio_less an_Ratio_less : Option Addr} {sl_Ratio_less : Array (Option Value)}
    {f_Ratio_floor : Addr} {oc_Ratio_floor kV_Ratio_floor dc_Ratio_floor pm_Ratio_floor cd_Ratio_floor ct_Ratio_floor : Value} {od_Ratio_floor an_Ratio_floor : Option Addr} {sl_Ratio_floor : Array (Option Value)}
    {f_begin : Addr} {oc_begin kV_begin dc_begin pm_begin cd_begin ct_begin : Value} {od_begin an_begin : Option Addr} {sl_begin : Array (Option Value)}
    {f_draw : Addr} {oc_draw kV_draw dc_draw pm_draw cd_draw ct_draw : Value} {od_draw an_draw : Option Addr} {sl_draw : Array (Option Value)}
    {f_number : Addr} {oc_number kV_number dc_number pm_number cd_number ct_number : Value} {od_number an_number : Option Addr} {sl_number : Array (Option Value)}
    {f_common : Addr} {oc_common kV_common dc_common pm_common cd_common ct_common : Value} {od_common an_common : Option Addr} {sl_common : Array (Option Value)}
    {f_least : Addr} {oc_least kV_least dc_least pm_least cd_least ct_least : Value} {od_least an_least : Option Addr} {sl_least : Array (Option Value)}
    {f_is : Addr} {oc_is kV_is dc_is pm_is cd_is ct_is : Value} {od_is an_is : Option Addr} {sl_is : Array (Option Value)}
    {f_over : Addr} {oc_over kV_over dc_over pm_over cd_over ct_over : Value} {od_over an_over : Option Addr} {sl_over : Array (Option Value)}
    {f_right : Addr} {oc_right kV_right dc_right pm_right cd_right ct_right : Value} {od_right an_right : Option Addr} {sl_right : Array (Option Value)}
    {f_ratio : Addr} {oc_ratio kV_ratio dc_ratio pm_ratio cd_ratio ct_ratio : Value} {od_ratio an_ratio : Option Addr} {sl_ratio : Array (Option Value)}
    {f_law : Addr} {oc_law kV_law dc_law pm_law cd_law ct_law : Value} {od_law an_law : Option Addr} {sl_law : Array (Option Value)}
    (aC_Ratio : PySem.W.nsIn K mainGlobals "Ratio" = some (some (.ref CR)))
    (pg_Ratio : PySem.W.plainGet K CR Str.empty = true)
    (hd_Ratio : PySem.W.hasDictIn K CR = true)
    (po_Ratio : PySem.W.plainOver K CR = true)
    (sa_Ratio : PySem.W.findIn K (.ref CR) "__setattr__" = some (some (.builtin "object.__setattr__")))
    (n_Ratio_top : PySem.W.findIn K (.ref CR) "top" = some none)
    (n_Ratio_below : PySem.W.findIn K (.ref CR) "below" = some none)
    (ha_Ratio : PySem.W.findIn K (.ref CR) "__class__" = some (some (.builtin "object.__class__")))
    (hn_Ratio : PySem.W.specialIn K (.builtin "object.__class__") "__get__" = some (some (.builtin "getset_descriptor.__get__")))
    (ht_Ratio : PySem.W.takesIn K (.builtin "object.__class__") = some true)
    (hm_Ratio : PySem.W.mroIn K CR (.type "object") = some true)
    (aX_NoRatio : PySem.W.nsIn K mainGlobals "NoRatio" = some (some (.ref CN)))
    (xL_NoRatio : K.lookup CN = some (excClassObj nm_NoRatio q_NoRatio CN N_NoRatio bs_NoRatio bm_NoRatio true sn_NoRatio sub_NoRatio ab_NoRatio col_NoRatio dd_NoRatio m0_NoRatio m1_NoRatio m2_NoRatio m3_NoRatio m5_NoRatio "ValueError.__new__"))
    (vX_NoRatio : PySem.HandSPX.refsVE bm_NoRatio = true)
    (sx_NoRatio : PySem.W.findIn K (.ref CN) "__setattr__" = some (some (.builtin "object.__setattr__")))
    (ga_NoRatio : PySem.W.findIn K (.ref CN) "__getattribute__" = some (some (.builtin "BaseException.__getattribute__")))
    (gg_NoRatio : PySem.W.findIn K (.ref CN) "__getattr__" = some none)
    (n_NoRatio_top : PySem.W.findIn K (.ref CN) "top" = some none)
    (kX_NoRatio : PySem.W.keepIn K (.ref CN) = true)
    (eX_NoRatio : PySem.W.subIn K (.ref CN) (.type "BaseException") = some true)
    (tX_NoRatio : PySem.W.typeIn K (.ref CN) = some (.type "type"))
    (hX_NoRatio : PySem.W.hasDictIn K CN = true)
    (iX_NoRatio : PySem.W.isClsIn K CN = true)
    (sX_NoRatio : PySem.W.subIn K (.ref CN) (.ref CN) = some true)
    (aG_GridError : PySem.W.nsIn K mainGlobals "GridError" = some (some (.ref CG)))
    (sg_GridError : PySem.W.specialIn K (.ref CG) "__getattribute__" = some (some (.builtin "type.__getattribute__")))
    (rd_GridError : PySem.W.readsIn K CG (.type "type") = true)
    (vV_GridError : PySem.W.findCls K (.ref CG) (.type "type") "__init__" = some (.val (.builtin "ValueError.__init__")))
    (a_NoRatio_init : PySem.W.findIn K (.ref CN) "__init__" = some (some (.ref f_NoRatio_init)))
    (t_NoRatio_init : PySem.W.typeIn K (.ref f_NoRatio_init) = some (.type "function"))
    (l_NoRatio_init : K.lookup f_NoRatio_init = some ⟨oc_NoRatio_init, od_NoRatio_init, .func (PySem.W.fnOf "__init__" "NoRatio.__init__" (defArgs s_NoRatio_init) (defBody s_NoRatio_init) (defScope s_NoRatio_init) .none kV_NoRatio_init dc_NoRatio_init pm_NoRatio_init an_NoRatio_init cd_NoRatio_init ct_NoRatio_init), sl_NoRatio_init⟩)
    (c_NoRatio_init : PySem.W.codeIn K cd_NoRatio_init "NoRatio.__init__" = true)
    (k_NoRatio_init : PySem.W.keepIn K (.ref f_NoRatio_init) = true)
    (a_common_part : PySem.W.nsIn K mainGlobals "common_part" = some (some (.ref f_common_part)))
    (l_common_part : K.lookup f_common_part = some ⟨oc_common_part, od_common_part, .func (PySem.W.fnOf "common_part" "common_part" (defArgs s_common_part) (defBody s_common_part) (defScope s_common_part) .none kV_common_part dc_common_part pm_common_part an_common_part cd_common_part ct_common_part), sl_common_part⟩)
    (c_common_part : PySem.W.codeIn K cd_common_part "common_part" = true)
    (k_common_part : PySem.W.keepIn K (.ref f_common_part) = true)
    (a_Ratio_init : PySem.W.findIn K (.ref CR) "__init__" = some (some (.ref f_Ratio_init)))
    (i_Ratio_init : PySem.W.isFn K (.ref f_Ratio_init) = true)
    (mk_Ratio : PySem.W.makesIn K CR = true)
    (kc_Ratio : PySem.W.keepIn K (.ref CR) = true)
    (l_Ratio_init : K.lookup f_Ratio_init = some ⟨oc_Ratio_init, od_Ratio_init, .func (PySem.W.fnOf "__init__" "Ratio.__init__" (defArgs s_Ratio_init) (defBody s_Ratio_init) (defScope s_Ratio_init) (.ref T_Ratio_init) kV_Ratio_init dc_Ratio_init pm_Ratio_init an_Ratio_init cd_Ratio_init ct_Ratio_init), sl_Ratio_init⟩)
    (lT_Ratio_init : K.lookup T_Ratio_init = some ⟨oT_Ratio_init, odT_Ratio_init, .seq #[.int 1 tk_Ratio_init_0] nT_Ratio_init, slT_Ratio_init⟩)
    (c_Ratio_init : PySem.W.codeIn K cd_Ratio_init "Ratio.__init__" = true)
    (k_Ratio_init : PySem.W.keepIn K (.ref f_Ratio_init) = true)
    (a_Ratio_plus : PySem.W.findIn K (.ref CR) "plus" = some (some (.ref f_Ratio_plus)))
    (i_Ratio_plus : PySem.W.isFn K (.ref f_Ratio_plus) = true)
    (l_Ratio_plus : K.lookup f_Ratio_plus = some ⟨oc_Ratio_plus, od_Ratio_plus, .func (PySem.W.fnOf "plus" "Ratio.plus" (defArgs s_Ratio_plus) (defBody s_Ratio_plus) (defScope s_Ratio_plus) .none kV_Ratio_plus dc_Ratio_plus pm_Ratio_plus an_Ratio_plus cd_Ratio_plus ct_Ratio_plus), sl_Ratio_plus⟩)
    (c_Ratio_plus : PySem.W.codeIn K cd_Ratio_plus "Ratio.plus" = true)
    (k_Ratio_plus : PySem.W.keepIn K (.ref f_Ratio_plus) = true)
    (a_Ratio_minus : PySem.W.findIn K (.ref CR) "minus" = some (some (.ref f_Ratio_minus)))
    (i_Ratio_minus : PySem.W.isFn K (.ref f_Ratio_minus) = true)
    (l_Ratio_minus : K.lookup f_Ratio_minus = some ⟨oc_Ratio_minus, od_Ratio_minus, .func (PySem.W.fnOf "minus" "Ratio.minus" (defArgs s_Ratio_minus) (defBody s_Ratio_minus) (defScope s_Ratio_minus) .none kV_Ratio_minus dc_Ratio_minus pm_Ratio_minus an_Ratio_minus cd_Ratio_minus ct_Ratio_minus), sl_Ratio_minus⟩)
    (c_Ratio_minus : PySem.W.codeIn K cd_Ratio_minus "Ratio.minus" = true)
    (k_Ratio_minus : PySem.W.keepIn K (.ref f_Ratio_minus) = true)
    (a_Ratio_times : PySem.W.findIn K (.ref CR) "times" = some (some (.ref f_Ratio_times)))
    (i_Ratio_times : PySem.W.isFn K (.ref f_Ratio_times) = true)
    (l_Ratio_times : K.lookup f_Ratio_times = some ⟨oc_Ratio_times, od_Ratio_times, .func (PySem.W.fnOf "times" "Ratio.times" (defArgs s_Ratio_times) (defBody s_Ratio_times) (defScope s_Ratio_times) .none kV_Ratio_times dc_Ratio_times pm_Ratio_times an_Ratio_times cd_Ratio_times ct_Ratio_times), sl_Ratio_times⟩)
    (c_Ratio_times : PySem.W.codeIn K cd_Ratio_times "Ratio.times" = true)
    (k_Ratio_times : PySem.W.keepIn K (.ref f_Ratio_times) = true)
    (a_Ratio_over : PySem.W.findIn K (.ref CR) "over" = some (some (.ref f_Ratio_over)))
    (i_Ratio_over : PySem.W.isFn K (.ref f_Ratio_over) = true)
    (l_Ratio_over : K.lookup f_Ratio_over = some ⟨oc_Ratio_over, od_Ratio_over, .func (PySem.W.fnOf "over" "Ratio.over" (defArgs s_Ratio_over) (defBody s_Ratio_over) (defScope s_Ratio_over) .none kV_Ratio_over dc_Ratio_over pm_Ratio_over an_Ratio_over cd_Ratio_over ct_Ratio_over), sl_Ratio_over⟩)
    (c_Ratio_over : PySem.W.codeIn K cd_Ratio_over "Ratio.over" = true)
    (k_Ratio_over : PySem.W.keepIn K (.ref f_Ratio_over) = true)
    (a_Ratio_less : PySem.W.findIn K (.ref CR) "less" = some (some (.ref f_Ratio_less)))
    (i_Ratio_less : PySem.W.isFn K (.ref f_Ratio_less) = true)
    (l_Ratio_less : K.lookup f_Ratio_less = some ⟨oc_Ratio_less, od_Ratio_less, .func (PySem.W.fnOf "less" "Ratio.less" (defArgs s_Ratio_less) (defBody s_Ratio_less) (defScope s_Ratio_less) .none kV_Ratio_less dc_Ratio_less pm_Ratio_less an_Ratio_less cd_Ratio_less ct_Ratio_less), sl_Ratio_less⟩)
    (c_Ratio_less : PySem.W.codeIn K cd_Ratio_less "Ratio.less" = true)
    (k_Ratio_less : PySem.W.keepIn K (.ref f_Ratio_less) = true)
    (a_Ratio_floor : PySem.W.findIn K (.ref CR) "floor" = some (some (.ref f_Ratio_floor)))
    (i_Ratio_floor : PySem.W.isFn K (.ref f_Ratio_floor) = true)
    (l_Ratio_floor : K.lookup f_Ratio_floor = some ⟨oc_Ratio_floor, od_Ratio_floor, .func (PySem.W.fnOf "floor" "Ratio.floor" (defArgs s_Ratio_floor) (defBody s_Ratio_floor) (defScope s_Ratio_floor) .none kV_Ratio_floor dc_Ratio_floor pm_Ratio_floor an_Ratio_floor cd_Ratio_floor ct_Ratio_floor), sl_Ratio_floor⟩)
    (c_Ratio_floor : PySem.W.codeIn K cd_Ratio_floor "Ratio.floor" = true)
    (k_Ratio_floor : PySem.W.keepIn K (.ref f_Ratio_floor) = true)
    (a_begin : PySem.W.nsIn K mainGlobals "_law_begin" = some (some (.ref f_begin)))
    (l_begin : K.lookup f_begin = some ⟨oc_begin, od_begin, .func (PySem.W.fnOf "_law_begin" "_law_begin" (defArgs s_begin) (defBody s_begin) (defScope s_begin) .none kV_begin dc_begin pm_begin an_begin cd_begin ct_begin), sl_begin⟩)
    (c_begin : PySem.W.codeIn K cd_begin "_law_begin" = true)
    (k_begin : PySem.W.keepIn K (.ref f_begin) = true)
    (a_draw : PySem.W.nsIn K mainGlobals "_law_draw" = some (some (.ref f_draw)))
    (l_draw : K.lookup f_draw = some ⟨oc_draw, od_draw, .func (PySem.W.fnOf "_law_draw" "_law_draw" (defArgs s_draw) (defBody s_draw) (defScope s_draw) .none kV_draw dc_draw pm_draw an_draw cd_draw ct_draw), sl_draw⟩)
    (c_draw : PySem.W.codeIn K cd_draw "_law_draw" = true)
    (k_draw : PySem.W.keepIn K (.ref f_draw) = true)
    (a_number : PySem.W.nsIn K mainGlobals "_law_number" = some (some (.ref f_number)))
    (l_number : K.lookup f_number = some ⟨oc_number, od_number, .func (PySem.W.fnOf "_law_number" "_law_number" (defArgs s_number) (defBody s_number) (defScope s_number) .none kV_number dc_number pm_number an_number cd_number ct_number), sl_number⟩)
    (c_number : PySem.W.codeIn K cd_number "_law_number" = true)
    (k_number : PySem.W.keepIn K (.ref f_number) = true)
    (a_common : PySem.W.nsIn K mainGlobals "_law_common" = some (some (.ref f_common)))
    (l_common : K.lookup f_common = some ⟨oc_common, od_common, .func (PySem.W.fnOf "_law_common" "_law_common" (defArgs s_common) (defBody s_common) (defScope s_common) .none kV_common dc_common pm_common an_common cd_common ct_common), sl_common⟩)
    (c_common : PySem.W.codeIn K cd_common "_law_common" = true)
    (k_common : PySem.W.keepIn K (.ref f_common) = true)
    (a_least : PySem.W.nsIn K mainGlobals "_law_least" = some (some (.ref f_least)))
    (l_least : K.lookup f_least = some ⟨oc_least, od_least, .func (PySem.W.fnOf "_law_least" "_law_least" (defArgs s_least) (defBody s_least) (defScope s_least) .none kV_least dc_least pm_least an_least cd_least ct_least), sl_least⟩)
    (c_least : PySem.W.codeIn K cd_least "_law_least" = true)
    (k_least : PySem.W.keepIn K (.ref f_least) = true)
    (a_is : PySem.W.nsIn K mainGlobals "_law_is" = some (some (.ref f_is)))
    (l_is : K.lookup f_is = some ⟨oc_is, od_is, .func (PySem.W.fnOf "_law_is" "_law_is" (defArgs s_is) (defBody s_is) (defScope s_is) .none kV_is dc_is pm_is an_is cd_is ct_is), sl_is⟩)
    (c_is : PySem.W.codeIn K cd_is "_law_is" = true)
    (k_is : PySem.W.keepIn K (.ref f_is) = true)
    (a_over : PySem.W.nsIn K mainGlobals "_law_over" = some (some (.ref f_over)))
    (l_over : K.lookup f_over = some ⟨oc_over, od_over, .func (PySem.W.fnOf "_law_over" "_law_over" (defArgs s_over) (defBody s_over) (defScope s_over) .none kV_over dc_over pm_over an_over cd_over ct_over), sl_over⟩)
    (c_over : PySem.W.codeIn K cd_over "_law_over" = true)
    (k_over : PySem.W.keepIn K (.ref f_over) = true)
    (a_right : PySem.W.nsIn K mainGlobals "_law_right" = some (some (.ref f_right)))
    (l_right : K.lookup f_right = some ⟨oc_right, od_right, .func (PySem.W.fnOf "_law_right" "_law_right" (defArgs s_right) (defBody s_right) (defScope s_right) .none kV_right dc_right pm_right an_right cd_right ct_right), sl_right⟩)
    (c_right : PySem.W.codeIn K cd_right "_law_right" = true)
    (k_right : PySem.W.keepIn K (.ref f_right) = true)
    (a_ratio : PySem.W.nsIn K mainGlobals "_law_ratio" = some (some (.ref f_ratio)))
    (l_ratio : K.lookup f_ratio = some ⟨oc_ratio, od_ratio, .func (PySem.W.fnOf "_law_ratio" "_law_ratio" (defArgs s_ratio) (defBody s_ratio) (defScope s_ratio) .none kV_ratio dc_ratio pm_ratio an_ratio cd_ratio ct_ratio), sl_ratio⟩)
    (c_ratio : PySem.W.codeIn K cd_ratio "_law_ratio" = true)
    (k_ratio : PySem.W.keepIn K (.ref f_ratio) = true)
    (a_law : PySem.W.nsIn K mainGlobals "law" = some (some (.ref f_law)))
    (l_law : K.lookup f_law = some ⟨oc_law, od_law, .func (PySem.W.fnOf "law" "law" (defArgs s_law) (defBody s_law) (defScope s_law) .none kV_law dc_law pm_law an_law cd_law ct_law), sl_law⟩)
    (c_law : PySem.W.codeIn K cd_law "law" = true)
    (k_law : PySem.W.keepIn K (.ref f_law) = true)
    (z_len : PySem.W.nsIn K mainGlobals "len" = some none)
    (z_abs : PySem.W.nsIn K mainGlobals "abs" = some none)
    (z_range : PySem.W.nsIn K mainGlobals "range" = some none)
    (z_int : PySem.W.nsIn K mainGlobals "int" = some none)
    (z_bool : PySem.W.nsIn K mainGlobals "bool" = some none)
    (z_repr : PySem.W.nsIn K mainGlobals "repr" = some none)
    (z_isinstance : PySem.W.nsIn K mainGlobals "isinstance" = some none)
    : ∃ fd : FuncData, (∀ (s : Shared) (v : Value), BindsTo s fd ⟨[v], []⟩ [("_law_script", v)]) ∧ ∀ base : Heap, K.In base → base.Ns mainGlobals mg → FnG l.prog w K mg base CX0 8 fa fd ["_law_script"] (spLaw K) := by
  have e := hfa.symm.trans (PySem.W.mg_of X G a_law)
  cases e
  have T : T02 mg := ⟨PySem.W.mg_none_of X G z_len, PySem.W.mg_none_of X G z_abs, PySem.W.mg_none_of X G z_range, PySem.W.mg_none_of X G z_int, PySem.W.mg_none_of X G z_bool, PySem.W.mg_none_of X G z_repr, PySem.W.mg_none_of X G z_isinstance⟩
  have O_Ratio : Own K CR ["top", "below"] := ⟨⟨pg_Ratio, hd_Ratio, po_Ratio, sa_Ratio⟩, fun f hf => by simp only [List.mem_cons, List.not_mem_nil, or_false] at hf; rcases hf with rfl | rfl <;> assumption, ha_Ratio, hn_Ratio, ht_Ratio, hm_Ratio⟩
  have G_Ratio := PySem.W.mg_of X G aC_Ratio
  have E_NoRatio : OexC K CN := ⟨⟨_, _, _, _, _, _, _, _, _, _, _, _, _, _, _, xL_NoRatio, vX_NoRatio⟩, sx_NoRatio, eX_NoRatio, tX_NoRatio, kX_NoRatio⟩
  have B_GridError : GBase K mg "GridError" CG := ⟨PySem.W.mg_of X G aG_GridError, sg_GridError, rd_GridError, vV_GridError⟩
  have F_NoRatio_init := fun_mk (st := s_NoRatio_init) l_NoRatio_init c_NoRatio_init k_NoRatio_init
  have F_common_part := fun_mk (st := s_common_part) l_common_part c_common_part k_common_part
  have F_Ratio_init : FunD K "__init__" "Ratio.__init__" (defArgs s_Ratio_init) (defBody s_Ratio_init) (defScope s_Ratio_init) [.int 1] [] f_Ratio_init _ := ⟨⟨_, _, _, _, _, _, _, _, _, _, rfl, l_Ratio_init, c_Ratio_init, .inr ⟨List.cons_ne_nil _ _, T_Ratio_init, _, [.int 1 tk_Ratio_init_0], nT_Ratio_init, rfl, lT_Ratio_init, rfl, .cons ⟨_, rfl⟩ (.nil)⟩, .inl rfl⟩, k_Ratio_init⟩
  have F_Ratio_plus := fun_mk (st := s_Ratio_plus) l_Ratio_plus c_Ratio_plus k_Ratio_plus
  have F_Ratio_minus := fun_mk (st := s_Ratio_minus) l_Ratio_minus c_Ratio_minus k_Ratio_minus
  have F_Ratio_times := fun_mk (st := s_Ratio_times) l_Ratio_times c_Ratio_times k_Ratio_times
  have F_Ratio_over := fun_mk (st := s_Ratio_over) l_Ratio_over c_Ratio_over k_Ratio_over
  have F_Ratio_less := fun_mk (st := s_Ratio_less) l_Ratio_less c_Ratio_less k_Ratio_less
  have F_Ratio_floor := fun_mk (st := s_Ratio_floor) l_Ratio_floor c_Ratio_floor k_Ratio_floor
  have F_begin := fun_mk (st := s_begin) l_begin c_begin k_begin
  have F_draw := fun_mk (st := s_draw) l_draw c_draw k_draw
  have F_number := fun_mk (st := s_number) l_number c_number k_number
  have F_common := fun_mk (st := s_common) l_common c_common k_common
  have F_least := fun_mk (st := s_least) l_least c_least k_least
  have F_is := fun_mk (st := s_is) l_is c_is k_is
  have F_over := fun_mk (st := s_over) l_over c_over k_over
  have F_right := fun_mk (st := s_right) l_right c_right k_right
  have F_ratio := fun_mk (st := s_ratio) l_ratio c_ratio k_ratio
  have F_law := fun_mk (st := s_law) l_law c_law k_law
  refine ⟨PySem.W.fnOf "law" "law" (defArgs s_law) (defBody s_law) (defScope s_law) .none kV_law dc_law pm_law an_law cd_law ct_law, fun s v => .of_eq rfl, fun base hb hn => ?_⟩
  have X_NoRatio : ExcOk l.prog w K mg base "NoRatio" CN ["top"] NoRatio_init.ps := ⟨E_NoRatio, ⟨ga_NoRatio, gg_NoRatio, eX_NoRatio, hX_NoRatio⟩, exm_own eX_NoRatio iX_NoRatio tX_NoRatio sX_NoRatio, fun f hf => by simp only [List.mem_cons, List.not_mem_nil, or_false] at hf; rcases hf with rfl <;> assumption, PySem.W.mg_of X G aX_NoRatio, ⟨_, _, a_NoRatio_init, t_NoRatio_init, bd_NoRatio_init F_NoRatio_init, ok_NoRatio_init F_NoRatio_init E_NoRatio n_NoRatio_top B_GridError⟩⟩
  have C_common_part : Callee l.prog w K mg base CX0 1 "common_part" s_common_part common_part.ps (spGcd) := ⟨_, _, PySem.W.mg_of X G a_common_part, F_common_part, bd_common_part F_common_part, ok_common_part F_common_part⟩
  have C_Ratio : Maker l.prog w K mg base (L2.CX l.prog w) 3 "Ratio" CR (fun f fd => FunD K "__init__" "Ratio.__init__" (defArgs s_Ratio_init) (defBody s_Ratio_init) (defScope s_Ratio_init) [.int 1] [] f fd) Ratio_init.ps (spRInit CR CN) := ⟨_, _, PySem.W.mg_of X G aC_Ratio, ⟨mk_Ratio, a_Ratio_init, i_Ratio_init, kc_Ratio⟩, F_Ratio_init, bd_Ratio_init rfl F_Ratio_init, ok_Ratio_init F_Ratio_init O_Ratio X_NoRatio T C_common_part⟩
  have C_Ratio_plus : Method l.prog w K mg base CX0 5 CR "plus" (dR s_Ratio_plus "plus" "Ratio.plus" K) Ratio_plus.ps (spBin CR (fun a b c d => a * d + c * b) (fun a b c d => b * d)) := ⟨_, _, O_Ratio.cl, ⟨a_Ratio_plus, i_Ratio_plus, k_Ratio_plus⟩, F_Ratio_plus, bd_Ratio_plus F_Ratio_plus, ok_Ratio_plus F_Ratio_plus O_Ratio C_Ratio⟩
  have C_Ratio_minus : Method l.prog w K mg base CX0 5 CR "minus" (dR s_Ratio_minus "minus" "Ratio.minus" K) Ratio_minus.ps (spBin CR (fun a b c d => a * d - c * b) (fun a b c d => b * d)) := ⟨_, _, O_Ratio.cl, ⟨a_Ratio_minus, i_Ratio_minus, k_Ratio_minus⟩, F_Ratio_minus, bd_Ratio_minus F_Ratio_minus, ok_Ratio_minus F_Ratio_minus O_Ratio C_Ratio⟩
  have C_Ratio_times : Method l.prog w K mg base CX0 5 CR "times" (dR s_Ratio_times "times" "Ratio.times" K) Ratio_times.ps (spBin CR (fun a b c d => a * c) (fun a b c d => b * d)) := ⟨_, _, O_Ratio.cl, ⟨a_Ratio_times, i_Ratio_times, k_Ratio_times⟩, F_Ratio_times, bd_Ratio_times F_Ratio_times, ok_Ratio_times F_Ratio_times O_Ratio C_Ratio⟩
  have C_Ratio_over : Method l.prog w K mg base (L2.CX l.prog w) 5 CR "over" (dR s_Ratio_over "over" "Ratio.over" K) Ratio_over.ps (spOver CR CN) := ⟨_, _, O_Ratio.cl, ⟨a_Ratio_over, i_Ratio_over, k_Ratio_over⟩, F_Ratio_over, bd_Ratio_over F_Ratio_over, ok_Ratio_over F_Ratio_over O_Ratio X_NoRatio C_Ratio⟩
  have C_Ratio_less : Method l.prog w K mg base CX0 1 CR "less" (dR s_Ratio_less "less" "Ratio.less" K) Ratio_less.ps (spLess CR) := ⟨_, _, O_Ratio.cl, ⟨a_Ratio_less, i_Ratio_less, k_Ratio_less⟩, F_Ratio_less, bd_Ratio_less F_Ratio_less, ok_Ratio_less F_Ratio_less O_Ratio⟩
  have C_Ratio_floor : Method l.prog w K mg base CX0 1 CR "floor" (dR s_Ratio_floor "floor" "Ratio.floor" K) Ratio_floor.ps (spFloor CR) := ⟨_, _, O_Ratio.cl, ⟨a_Ratio_floor, i_Ratio_floor, k_Ratio_floor⟩, F_Ratio_floor, bd_Ratio_floor F_Ratio_floor, ok_Ratio_floor F_Ratio_floor O_Ratio⟩
  have C_begin : Callee l.prog w K mg base CX0 1 "_law_begin" s_begin begin.ps (spBegin K) := ⟨_, _, PySem.W.mg_of X G a_begin, F_begin, bd_begin F_begin, ok_begin F_begin T⟩
  have C_draw : Callee l.prog w K mg base CX0 1 "_law_draw" s_draw draw.ps (spDraw) := ⟨_, _, PySem.W.mg_of X G a_draw, F_draw, bd_draw F_draw, ok_draw F_draw⟩
  have C_number : Callee l.prog w K mg base CX0 2 "_law_number" s_number number.ps (spNumber) := ⟨_, _, PySem.W.mg_of X G a_number, F_number, bd_number F_number, ok_number F_number T C_draw⟩
  have C_common : Callee l.prog w K mg base CX0 1 "_law_common" s_common common.ps (spGcd) := ⟨_, _, PySem.W.mg_of X G a_common, F_common, bd_common F_common, ok_common F_common⟩
  have C_least : Callee l.prog w K mg base CX0 2 "_law_least" s_least least.ps (spLeast) := ⟨_, _, PySem.W.mg_of X G a_least, F_least, bd_least F_least, ok_least F_least T C_common⟩
  have C_is : Callee l.prog w K mg base CX0 3 "_law_is" s_is is.ps (spIs CR) := ⟨_, _, PySem.W.mg_of X G a_is, F_is, bd_is F_is, ok_is F_is T O_Ratio G_Ratio C_least⟩
  have C_over : Callee l.prog w K mg base CX0 6 "_law_over" s_over over.ps (spOverL CR) := ⟨_, _, PySem.W.mg_of X G a_over, F_over, bd_over F_over, ok_over F_over X_NoRatio C_Ratio_over⟩
  have C_right : Callee l.prog w K mg base CX0 7 "_law_right" s_right right.ps (spRight CR) := ⟨_, _, PySem.W.mg_of X G a_right, F_right, bd_right F_right, ok_right F_right T O_Ratio C_Ratio_plus C_Ratio_minus C_Ratio_times C_Ratio_less C_Ratio_floor C_is C_over⟩
  have C_ratio : Callee l.prog w K mg base CX0 5 "_law_ratio" s_ratio ratio.ps (spRatio CR) := ⟨_, _, PySem.W.mg_of X G a_ratio, F_ratio, bd_ratio F_ratio, ok_ratio F_ratio C_draw C_number C_Ratio⟩
  exact ok_law F_law T O_Ratio C_begin C_draw C_ratio C_right C_Ratio
end K02
open PySem PySem.W PyProof.Rows in
set_option maxRecDepth 100000 in
set_option maxHeartbeats 0 in
theorem PySem.Challenge.cw_gridplaces_k02_ratios_reckoned_holds : PySem.Challenge.rw_gridplaces_k02_ratios_reckoned.Holds := by
  w_on; o_law; k_head; (case hw => w_witness2)
  k_fill
  refine Lay.walk_law (l := PySem.Challenge.rw_gridplaces_k02_ratios_reckoned) (n := 63) (k := 8) (x := "_law_script") (sp := fun K => K02.spLaw K) rfl (by decide) rfl ⟨rfl, by decide, by decide⟩ (fun w h Y => PySem.W.kIn_of Y) ?F ?S
  case F =>
    intro w mg fa h KX G hmg
    refine' K02.all_mk KX G hmg ?aC_Ratio ?pg_Ratio ?hd_Ratio ?po_Ratio ?sa_Ratio ?n_Ratio_top ?n_Ratio_below ?ha_Ratio ?hn_Ratio ?ht_Ratio ?hm_Ratio ?aX_NoRatio ?xL_NoRatio ?vX_NoRatio ?sx_NoRatio ?ga_NoRatio ?gg_NoRatio ?n_NoRatio_top ?kX_NoRatio ?eX_NoRatio ?tX_NoRatio ?hX_NoRatio ?iX_NoRatio ?sX_NoRatio ?aG_GridError ?sg_GridError ?rd_GridError ?vV_GridError ?a_NoRatio_init ?t_NoRatio_init ?l_NoRatio_init ?c_NoRatio_init ?k_NoRatio_init ?a_common_part ?l_common_part ?c_common_part ?k_common_part ?a_Ratio_init ?i_Ratio_init ?mk_Ratio ?kc_Ratio ?l_Ratio_init ?lT_Ratio_init ?c_Ratio_init ?k_Ratio_init ?a_Ratio_plus ?i_Ratio_plus ?l_Ratio_plus ?c_Ratio_plus ?k_Ratio_plus ?a_Ratio_minus ?i_Ratio_minus ?l_Ratio_minus ?c_Ratio_minus ?k_Ratio_minus ?a_Ratio_times ?i_Ratio_times ?l_Ratio_times ?c_Ratio_times ?k_Ratio_times ?a_Ratio_over ?i_Ratio_over ?l_Ratio_over ?c_Ratio_over ?k_Ratio_over ?a_Ratio_less ?i_Ratio_less ?l_Ratio_less ?c_Ratio_less ?k_Ratio_less ?a_Ratio_floor ?i_Ratio_floor ?l_Ratio_floor ?c_Ratio_floor ?k_Ratio_floor ?a_begin ?l_begin ?c_begin ?k_begin ?a_draw ?l_draw ?c_draw ?k_draw ?a_number ?l_number ?c_number ?k_number ?a_common ?l_common ?c_common ?k_common ?a_least ?l_least ?c_least ?k_least ?a_is ?l_is ?c_is ?k_is ?a_over ?l_over ?c_over ?k_over ?a_right ?l_right ?c_right ?k_right ?a_ratio ?l_ratio ?c_ratio ?k_ratio ?a_law ?l_law ?c_law ?k_law ?z_len ?z_abs ?z_range ?z_int ?z_bool ?z_repr ?z_isinstance
    (case aC_Ratio => k_is)
    (case pg_Ratio => k_is)
    (case hd_Ratio => k_is)
    (case po_Ratio => k_is)
    (case sa_Ratio => k_is)
    (case n_Ratio_top => k_is)
    (case n_Ratio_below => k_is)
    (case ha_Ratio => k_is)
    (case hn_Ratio => k_is)
    (case ht_Ratio => k_is)
    (case hm_Ratio => k_is)
    (case aX_NoRatio => k_is)
    (case xL_NoRatio => k_is)
    (case vX_NoRatio => rfl)
    (case sx_NoRatio => k_is)
    (case ga_NoRatio => k_is)
    (case gg_NoRatio => k_is)
    (case n_NoRatio_top => k_is)
    (case kX_NoRatio => k_is)
    (case eX_NoRatio => k_is)
    (case tX_NoRatio => k_is)
    (case hX_NoRatio => k_is)
    (case iX_NoRatio => k_is)
    (case sX_NoRatio => first | rfl | k_is)
    (case aG_GridError => k_is)
    (case sg_GridError => k_is)
    (case rd_GridError => k_is)
    (case vV_GridError => k_is)
    (case a_NoRatio_init => k_is)
    (case t_NoRatio_init => k_is)
    (case l_NoRatio_init => k_is)
    (case c_NoRatio_init => k_is)
    (case k_NoRatio_init => k_is)
    (case a_common_part => k_is)
    (case l_common_part => k_is)
    (case c_common_part => k_is)
    (case k_common_part => k_is)
    (case a_Ratio_init => k_is)
    (case i_Ratio_init => k_is)
    (case mk_Ratio => k_is)
    (case kc_Ratio => k_is)
    (case l_Ratio_init => k_is)
    (case lT_Ratio_init => k_is)
    (case c_Ratio_init => k_is)
    (case k_Ratio_init => k_is)
    (case a_Ratio_plus => k_is)
    (case i_Ratio_plus => k_is)
    (case l_Ratio_plus => k_is)
    (case c_Ratio_plus => k_is)
    (case k_Ratio_plus => k_is)
    (case a_Ratio_minus => k_is)
    (case i_Ratio_minus => k_is)
    (case l_Ratio_minus => k_is)
    (case c_Ratio_minus => k_is)
    (case k_Ratio_minus => k_is)
    (case a_Ratio_times => k_is)
    (case i_Ratio_times => k_is)
    (case l_Ratio_times => k_is)
    (case c_Ratio_times => k_is)
    (case k_Ratio_times => k_is)
    (case a_Ratio_over => k_is)
    (case i_Ratio_over => k_is)
    (case l_Ratio_over => k_is)
    (case c_Ratio_over => k_is)
    (case k_Ratio_over => k_is)
    (case a_Ratio_less => k_is)
    (case i_Ratio_less => k_is)
    (case l_Ratio_less => k_is)
    (case c_Ratio_less => k_is)
    (case k_Ratio_less => k_is)
    (case a_Ratio_floor => k_is)
    (case i_Ratio_floor => k_is)
    (case l_Ratio_floor => k_is)
    (case c_Ratio_floor => k_is)
    (case k_Ratio_floor => k_is)
    (case a_begin => k_is)
    (case l_begin => k_is)
    (case c_begin => k_is)
    (case k_begin => k_is)
    (case a_draw => k_is)
    (case l_draw => k_is)
    (case c_draw => k_is)
    (case k_draw => k_is)
    (case a_number => k_is)
    (case l_number => k_is)
    (case c_number => k_is)
    (case k_number => k_is)
    (case a_common => k_is)
    (case l_common => k_is)
    (case c_common => k_is)
    (case k_common => k_is)
    (case a_least => k_is)
    (case l_least => k_is)
    (case c_least => k_is)
    (case k_least => k_is)
    (case a_is => k_is)
    (case l_is => k_is)
    (case c_is => k_is)
    (case k_is => k_is)
    (case a_over => k_is)
    (case l_over => k_is)
    (case c_over => k_is)
    (case k_over => k_is)
    (case a_right => k_is)
    (case l_right => k_is)
    (case c_right => k_is)
    (case k_right => k_is)
    (case a_ratio => k_is)
    (case l_ratio => k_is)
    (case c_ratio => k_is)
    (case k_ratio => k_is)
    (case a_law => k_is)
    (case l_law => k_is)
    (case c_law => k_is)
    (case k_law => k_is)
    (case z_len => k_is)
    (case z_abs => k_is)
    (case z_range => k_is)
    (case z_int => k_is)
    (case z_bool => k_is)
    (case z_repr => k_is)
    (case z_isinstance => k_is)
  case S =>
    intro K H a ns hl _ hS
    exact K02.law_asks hl hS
#print axioms PySem.Challenge.cw_gridplaces_k02_ratios_reckoned_holds
