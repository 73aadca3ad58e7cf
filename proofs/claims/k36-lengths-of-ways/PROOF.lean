import PyProof.Rows.All
import Wide.All
import OpenK.AllK
import Wide.FinOn
import HandS.ForMost
import HandS.Wide
import HandS.Zip
import HandS.TupAny
import HandS.RaiseMore
import HandS.Walk
import HandS.Flow
import HandS.Style
import PySem.Challenge.RW_gridplaces_k36_lengths_of_ways
set_option Elab.async false
set_option linter.all false
set_option maxRecDepth 100000
set_option maxHeartbeats 2000000
namespace Lay
open PySem PySem.Spec PyProof.Rows L2

/-! ### defs that may show data: no repr is under way around them -/
theorem guards_deep {A : Around} {env : Env} (h : A.guards = some []) : (A.deeper env).guards = some [] := h
theorem guards_make {A : Around} {C : Addr} {us : List Value} {kw : List (Str × Value)} (h : A.guards = some []) :
    (A.under (.builtin "type.__call__" ⟨.ref C :: us, kw⟩)).guards = some [] := by
  first | exact h | (simp [Around.under, Code.guards, Code.isGuard, guardIds, h])

/-- as the layer's FnOk, but only where no repr is under way -/
structure FnG (P : Program) (w : World) (K : PySem.W.Frag) (mg : Str → Option Value) (base : Heap)
    (CX : CXT) (k : Nat) (f : Addr) (fd : FuncData) (ps : List Str) (sp : Sp) : Prop where
  ln : ∀ vs H Q E, sp vs H Q E → vs.length = ps.length
  go : ∀ (A : Around) (outer : List Env) (s : Shared) (H : Hp) (args : Args) (us : List Value)
    (vs : List V) (Q : VK) (E : XK), Room k A → A.guards = some [] → Env0 P w K mg base A outer s H →
    BindsTo s fd args (ps.zip us) → Vals vs us → sp vs H Q E →
    codeAny (model P w) A (.call (.ref f) args) (CR CX outer P w H s Q E) s

section
variable {P : Program} {w : World} {K : PySem.W.Frag} {mg : Str → Option Value} {base : Heap} {CX : CXT} {k : Nat}
  {f : Addr} {fd : FuncData} {ps : List Str} {sp : Sp}
theorem FnG.of (F : FnOk P w K mg base CX k f fd ps sp) : FnG P w K mg base CX k f fd ps sp :=
  ⟨F.len, fun A outer s H args us vs Q E hr _ he hb hv hs => F.run A outer s H args us vs Q E hr he hb hv hs⟩
theorem FnG.up {j : Nat} (F : FnG P w K mg base CX j f fd ps sp) (h : j ≤ k) : FnG P w K mg base CX k f fd ps sp :=
  ⟨F.ln, fun A outer s H args us vs Q E hr => F.go A outer s H args us vs Q E (hr.mono h)⟩

/-- a def by its body -/
theorem fg_of {name qual : Str} {params : Arguments} {body : List Stmt} {scope : Scope} {dV kV doc pm cdv ct oc : Value}
    {an od : Option Addr} {osl : Array (Option Value)} {N : List Str}
    (lk : K.lookup f = some ⟨oc, od, .func (PySem.W.fnOf name qual params body scope dV kV doc pm an cdv ct), osl⟩)
    (hcd : PySem.W.codeIn K cdv qual = true) (S : FnScope N ps scope)
    (ln : ∀ vs H Q E, sp vs H Q E → vs.length = ps.length)
    (hb : ∀ (A : Around) (outer : List Env) (s : Shared) (H : Hp) (vs : List V) (Q : VK) (E : XK),
      Room k (A.deeper (envOfC qual scope s.heap.objs.size f cdv)) →
      (A.deeper (envOfC qual scope s.heap.objs.size f cdv)).guards = some [] → sp vs H Q E →
      ∃ t, PSs (cxOf CX P w K mg base N qual scope f cdv A outer s H E) body t ∧
        t { nx := fun _ H' => Q .non H', rt := Q } (start N vs) H) :
    FnG P w K mg base CX (k + 1) f (PySem.W.fnOf name qual params body scope dV kV doc pm an cdv ct) ps sp := by
  refine ⟨ln, ?_⟩
  intro A outer s H args us vs Q E hr hg e0 hbd r hsp
  have hlen := ln _ _ _ _ hsp
  have inS : K.In s.heap := e0.mod.kin.keeps fun b o q => (e0.bs b o q).1
  have noL : s.heap.NoLimit := e0.mod.nolimit.keeps fun b o q => (e0.bs b o q).1
  have kinds : ∀ y ∈ ps.zip us, scope.names.lookup y.1 = some .local ∨
      (scope.names.lookup y.1 = some .cell ∧ ((cellsFrom (s.heap.objs.size + 1) scope.names []).lookup y.1).isSome = true) := by
    rintro ⟨n, v⟩ hy
    cases S.par n (List.of_mem_zip hy).1 with
    | inl q => exact .inl q
    | inr q => exact .inr ⟨q, PySem.W.cellsFrom_some _ _ _ (.inl q)⟩
  refine codeAny_call_function hr.depth (inS _ _ lk) rfl S.co S.gen rfl (PySem.W.codeRec_of inS hcd) (hbd _ _ _ _ ?_)
  refine wpAny_newFunctionEnv_cells S.kind kinds ?_
  intro env he s1 x
  subst he
  refine ⟨noL.keeps x.toInCall.keep, codeAny_func ?_⟩
  obtain ⟨t, ht, hq⟩ := hb A outer s H vs Q E (hr.deeper _) (guards_deep hg) hsp
  have I0 := inv_start (CX := CX) (E := E) S hr.hd e0 hlen r x
  refine wpAny_mono (ht.run [] s1 (start N vs) H _ I0 hq) ?_ (fun _ _ z => z)
  intro fl s' hs
  cases fl with
  | ret u => obtain ⟨v, σ', H', J, rv, q⟩ := hs; exact ⟨v, H', J.os, J.bare, J.base, J.hok, rv, q⟩
  | next => obtain ⟨σ', H', J, q⟩ := hs; exact ⟨V.non, H', J.os, J.bare, J.base, J.hok, rfl, q⟩
  | brk => obtain ⟨_, _, _, q⟩ := hs; exact q.elim
  | cont => obtain ⟨_, _, _, q⟩ := hs; exact q.elim

/-- a def that lets no exception out -/
theorem gbody {x qual : Str} {st : Stmt} {N : List Str} (F : Fun K x qual st f fd) (S : FnScope N ps (defScope st))
    (ln : ∀ vs H Q E, sp vs H Q E → vs.length = ps.length)
    (hb : ∀ (cdv : Value) (A : Around) (outer : List Env) (s : Shared) (H : Hp) (vs : List V) (Q : VK) (E : XK),
      Room k (A.deeper (envOfC qual (defScope st) s.heap.objs.size f cdv)) →
      (A.deeper (envOfC qual (defScope st) s.heap.objs.size f cdv)).guards = some [] → sp vs H Q E →
      ∃ t, PSs (cxOf CX0 P w K mg base N qual (defScope st) f cdv A outer s H E).nox (defBody st) t ∧
        t { nx := fun _ H' => Q .non H', rt := Q } (start N vs) H) : FnG P w K mg base CX0 (k + 1) f fd ps sp := by
  obtain ⟨oc, od, kV, doc, pm, an, cdv, ct, osl, rfl, lk, hcd⟩ := F.ex
  refine fg_of lk hcd S ln ?_
  intro A outer s H vs Q E hr hg hsp
  obtain ⟨t, h, q⟩ := hb cdv A outer s H vs Q E hr hg hsp
  exact ⟨t, PSs.nox h, q⟩
/-- a def that may raise -/
theorem gbodyX {x qual : Str} {st : Stmt} {N : List Str} {CY : CXT} (F : Fun K x qual st f fd) (S : FnScope N ps (defScope st))
    (ln : ∀ vs H Q E, sp vs H Q E → vs.length = ps.length)
    (hb : ∀ (cdv : Value) (A : Around) (outer : List Env) (s : Shared) (H : Hp) (vs : List V) (Q : VK) (E : XK),
      Room k (A.deeper (envOfC qual (defScope st) s.heap.objs.size f cdv)) →
      (A.deeper (envOfC qual (defScope st) s.heap.objs.size f cdv)).guards = some [] → sp vs H Q E →
      ∃ t, PSs (cxOf CY P w K mg base N qual (defScope st) f cdv A outer s H E) (defBody st) t ∧
        t { nx := fun _ H' => Q .non H', rt := Q } (start N vs) H) : FnG P w K mg base CY (k + 1) f fd ps sp := by
  obtain ⟨oc, od, kV, doc, pm, an, cdv, ct, osl, rfl, lk, hcd⟩ := F.ex
  exact fg_of lk hcd S ln fun A outer s H vs Q E hr hg hsp => hb cdv A outer s H vs Q E hr hg hsp
end

section
variable {X : Cx} {CX : CXT} {k : Nat} {f : Addr} {fd : FuncData} {ps ks : List Str} {sp : Sp} {dvs : List V} {ds : List Value}
  {E : XK} {x m : Str} {p pos apos : Pos} {e o : Expr} {es : List Expr} {kws : List Keyword} {ta : TE} {t tk : TA} {C : Addr}
/-- a callee's end, seen from the caller -/
theorem back {pins : List (Addr × Obj)} {σ : L2.St} {H : Hp} {s : Shared} {Q : VK} (hx : Passes CX X E) (I : Inv X pins σ H s)
    {r : Result} {s' : Shared} (hq : CR CX X.stack X.prog X.w H s Q E r s') :
    (match r with | .ok (.ret u) => EP X pins σ Q u s' | .ok _ => False | .error e => X.xe e s') := by
  cases r with
  | error e => exact hx pins σ H s e s' I hq
  | ok fl =>
    cases fl with
    | ret u => exact I.after hq
    | next => exact hq
    | brk => exact hq
    | cont => exact hq
theorem gcall {pins : List (Addr × Obj)} {σ : L2.St} {H : Hp} {s : Shared} {Q : VK} {args : Args} {us : List Value} {vs : List V}
    (F : FnG X.prog X.w X.K X.mg X.base CX k f fd ps sp) (hr : Room k X.A) (hg : X.A.guards = some [])
    (hb : BindsTo s fd args (ps.zip us)) (hx : Passes CX X E) (I : Inv X pins σ H s) (r : Vals vs us) (h : sp vs H Q E) :
    wpAny (model X.prog X.w) X.A (call (.ref f) args.pos args.kw) (EP X pins σ Q) X.xe s := by
  obtain ⟨ap, ak⟩ := args
  refine wpAny_call (codeAny_mono (F.go X.A X.stack s H ⟨ap, ak⟩ us vs Q E hr hg I.env0 hb r h) ?_)
  intro r s' hq
  have z := back hx I hq
  cases r with
  | error e => exact z
  | ok fl =>
    cases fl with
    | ret u => exact z
    | next => exact z.elim
    | brk => exact z.elim
    | cont => exact z.elim
theorem gcallP {pins : List (Addr × Obj)} {σ : L2.St} {H : Hp} {s : Shared} {Q : VK} {us : List Value} {vs : List V}
    (F : FnG X.prog X.w X.K X.mg X.base CX k f fd ps sp) (hr : Room k X.A) (hg : X.A.guards = some [])
    (hb : Binds X.K fd ps ds) (hd : Vals dvs ds) (hx : Passes CX X E) (I : Inv X pins σ H s) (r : Vals vs us)
    (h : sp (vs ++ dvs) H Q E) : wpAny (model X.prog X.w) X.A (call (.ref f) us) (EP X pins σ Q) X.xe s := by
  have r2 : Vals (vs ++ dvs) (us ++ ds) := r.append hd
  have hl : (us ++ ds).length = ps.length := by rw [← r2.length]; exact F.ln _ _ _ _ h
  exact gcall (args := ⟨us, []⟩) F hr hg (hb s us I.kIn hl) hx I r2 h

/-- f(e, ..) -/
theorem ge_call (F : FnG X.prog X.w X.K X.mg X.base CX k f fd ps sp) (hr : Room k X.A) (hg : X.A.guards = some []) (hG : Gl X x)
    (hm : X.mg x = some (.ref f)) (hk : PySem.W.keepIn X.K (.ref f) = true) (hb : Binds X.K fd ps ds) (hd : Vals dvs ds)
    (hx : Passes CX X E) (ha : PA X (e :: es) t) (hdb : (x == ("__debug__" : Str)) = false := by decide)
    (he : starEach (e :: es) X.env = (false, eval e X.env) :: starEach es X.env := by rfl)
    (hpl : (backTo pos (starEach es X.env)).any (·.1) = false := by rfl) :
    PE X (.Call (.Name x p) (e :: es) [] pos) (tCall sp dvs E t) := by
  constructor
  intro pins s σ H Q I h
  refine wpAny_Call_Name_kw (ld_glob I hG hm ?_ hdb)
  refine PySem.W.callWith_K (h₀ := X.base) I.ok.mod.kin hk (thn (ha.run pos pins s σ H _ I h) ?_) he hpl
  rintro us s1 ⟨vs, H1, I1, r, q⟩
  exact ⟨I1.kIn, gcallP F hr hg hb hd hx I1 r q⟩
theorem ge_call0 (F : FnG X.prog X.w X.K X.mg X.base CX k f fd ps sp) (hr : Room k X.A) (hg : X.A.guards = some []) (hG : Gl X x)
    (hm : X.mg x = some (.ref f)) (hk : PySem.W.keepIn X.K (.ref f) = true) (hb : Binds X.K fd ps ds) (hd : Vals dvs ds)
    (hx : Passes CX X E) (hdb : (x == ("__debug__" : Str)) = false := by decide) :
    PE X (.Call (.Name x p) [] [] pos) (tCall sp dvs E tNil) := by
  constructor
  intro pins s σ H Q I h
  exact wpAny_Call_Name_kw (ld_glob I hG hm (PySem.W.callWith_K0 I.kIn hk (gcallP (us := []) F hr hg hb hd hx I .nil h)) hdb)

variable {g : List Value → List Value → List Value} {gV : List V → List V → List V}
/-- f(e, .., k = v, ..) -/
theorem ge_callK (F : FnG X.prog X.w X.K X.mg X.base CX k f fd ps sp) (hr : Room k X.A) (hg : X.A.guards = some []) (hG : Gl X x)
    (hm : X.mg x = some (.ref f)) (hk : PySem.W.keepIn X.K (.ref f) = true) (hb : KBinds X.K fd ps ks g gV) (hx : Passes CX X E)
    (ha : PA X (e :: es) t) (hkw : PK X kws tk) (hall : (backToKw pos (keywordEach kws X.env)).all (·.1.isSome) = true := by rfl)
    (hks : (backToKw pos (keywordEach kws X.env)).filterMap (·.1) = ks := by rfl)
    (hdb : (x == ("__debug__" : Str)) = false := by decide)
    (he : starEach (e :: es) X.env = (false, eval e X.env) :: starEach es X.env := by rfl)
    (hpl : ((backTo pos (starEach (e :: es) X.env)).any (·.1) || (backToKw pos (keywordEach kws X.env)).any (·.1.isNone)) = false := by rfl) :
    PE X (.Call (.Name x p) (e :: es) kws pos) (tCallK sp gV E t tk) := by
  constructor
  intro pins s σ H Q I h
  refine wpAny_Call_Name_kw (ld_glob I hG hm ?_ hdb)
  refine PySem.W.callWith_KW (h₀ := X.base) I.ok.mod.kin hk hall (thn (ha.run pos pins s σ H _ I h) ?_) hpl he
  rintro us s1 ⟨vs, H1, I1, r, q⟩
  refine thn (hkw.run pos pins s1 σ H1 _ I1 q) ?_
  rintro ws s2 ⟨zs, H2, I2, rz, q2⟩
  refine ⟨I2.kIn, ?_⟩
  rw [hks]
  have r2 := hb.rel r rz
  have hl : (g us ws).length = ps.length := by rw [← r2.length]; exact F.ln _ _ _ _ q2
  exact gcall (args := ⟨us, ks.zip ws⟩) F hr hg (hb.to s2 us ws I2.kIn hl) hx I2 r2 q2
end

/-- keywords: n values by place, the named ones in the order ks; srcs says which of them (or which default) each parameter takes -/
structure KwB (K : PySem.W.Frag) (fd : FuncData) (ps : List Str) (n : Nat) (ks : List Str)
    (g : List Value → List Value → List Value) (gV : List V → List V → List V) : Prop where
  to : ∀ (s : Shared) (us ws : List Value), K.In s.heap → us.length = n → ws.length = ks.length → BindsTo s fd ⟨us, ks.zip ws⟩ (ps.zip (g us ws))
  rel : ∀ (vs zs : List V) (us ws : List Value), vs.length = n → zs.length = ks.length → Vals vs us → Vals zs ws → Vals (gV vs zs) (g us ws)
def tKw (n m : Nat) (sp : Sp) (gV : List V → List V → List V) (E : XK) (t tk : TA) : TE := fun σ H Q =>
  t σ H fun vs H1 => tk σ H1 fun zs H2 => vs.length = n ∧ zs.length = m ∧ sp (gV vs zs) H2 Q E
section
variable {X : Cx} {CX : CXT} {k n : Nat} {f : Addr} {fd : FuncData} {ps ks : List Str} {sp : Sp}
  {E : XK} {x : Str} {p pos : Pos} {e : Expr} {es : List Expr} {kws : List Keyword} {t tk : TA}
  {g : List Value → List Value → List Value} {gV : List V → List V → List V}
theorem ge_kw (F : FnG X.prog X.w X.K X.mg X.base CX k f fd ps sp) (hr : Room k X.A) (hg : X.A.guards = some []) (hG : Gl X x)
    (hm : X.mg x = some (.ref f)) (hk : PySem.W.keepIn X.K (.ref f) = true) (hb : KwB X.K fd ps n ks g gV) (hx : Passes CX X E)
    (ha : PA X (e :: es) t) (hkw : PK X kws tk) (hall : (backToKw pos (keywordEach kws X.env)).all (·.1.isSome) = true := by rfl)
    (hks : (backToKw pos (keywordEach kws X.env)).filterMap (·.1) = ks := by rfl)
    (hdb : (x == ("__debug__" : Str)) = false := by decide)
    (he : starEach (e :: es) X.env = (false, eval e X.env) :: starEach es X.env := by rfl)
    (hpl : ((backTo pos (starEach (e :: es) X.env)).any (·.1) || (backToKw pos (keywordEach kws X.env)).any (·.1.isNone)) = false := by rfl) :
    PE X (.Call (.Name x p) (e :: es) kws pos) (tKw n ks.length sp gV E t tk) := by
  constructor
  intro pins s σ H Q I h
  refine wpAny_Call_Name_kw (ld_glob I hG hm ?_ hdb)
  refine PySem.W.callWith_KW (h₀ := X.base) I.ok.mod.kin hk hall (thn (ha.run pos pins s σ H _ I h) ?_) hpl he
  rintro us s1 ⟨vs, H1, I1, r, q⟩
  refine thn (hkw.run pos pins s1 σ H1 _ I1 q) ?_
  rintro ws s2 ⟨zs, H2, I2, rz, l1, l2, q2⟩
  refine ⟨I2.kIn, ?_⟩
  rw [hks]
  exact gcall (args := ⟨us, ks.zip ws⟩) F hr hg (hb.to s2 us ws I2.kIn (by rw [← r.length]; exact l1) (by rw [← rz.length]; exact l2)) hx I2 (hb.rel vs zs us ws l1 l2 r rz) q2
theorem ge_kw0 (F : FnG X.prog X.w X.K X.mg X.base CX k f fd ps sp) (hr : Room k X.A) (hg : X.A.guards = some []) (hG : Gl X x)
    (hm : X.mg x = some (.ref f)) (hk : PySem.W.keepIn X.K (.ref f) = true) (hb : KwB X.K fd ps 0 ks g gV) (hx : Passes CX X E)
    (hkw : PK X kws tk) (hall : (backToKw pos (keywordEach kws X.env)).all (·.1.isSome) = true := by rfl)
    (hks : (backToKw pos (keywordEach kws X.env)).filterMap (·.1) = ks := by rfl)
    (hdb : (x == ("__debug__" : Str)) = false := by decide)
    (hpl : ((backTo pos (starEach [] X.env)).any (·.1) || (backToKw pos (keywordEach kws X.env)).any (·.1.isNone)) = false := by rfl) :
    PE X (.Call (.Name x p) [] kws pos) (tKw 0 ks.length sp gV E tNil tk) := by
  constructor
  intro pins s σ H Q I h
  refine wpAny_Call_Name_kw (ld_glob I hG hm ?_ hdb)
  refine PySem.W.callWith_KW0 (h₀ := X.base) I.ok.mod.kin hk hall ?_ hpl
  refine thn (hkw.run pos pins s σ H _ I h) ?_
  rintro ws s2 ⟨zs, H2, I2, rz, l1, l2, q2⟩
  refine ⟨I2.kIn, ?_⟩
  rw [hks]
  exact gcall (args := ⟨[], ks.zip ws⟩) F hr hg (hb.to s2 [] ws I2.kIn rfl (by rw [← rz.length]; exact l2)) hx I2 (hb.rel [] zs [] ws l1 l2 .nil rz) q2
end

/-! ### a def of the top as its callers see it -/
structure Callee (P : Program) (w : World) (K : PySem.W.Frag) (mg : Str → Option Value) (base : Heap)
    (CX : CXT) (k : Nat) (x : Str) (st : Stmt) (ps : List Str) (sp : Sp) : Prop where
  ex : ∃ (f : Addr) (fd : FuncData), mg x = some (.ref f) ∧ Fun K x x st f fd ∧ Binds K fd ps [] ∧ FnG P w K mg base CX k f fd ps sp
section
variable {X : Cx} {CX : CXT} {j k n : Nat} {ps ks : List Str} {sp : Sp} {st : Stmt}
  {E : XK} {x : Str} {p pos : Pos} {e : Expr} {es : List Expr} {kws : List Keyword} {t tk : TA}
  {g : List Value → List Value → List Value} {gV : List V → List V → List V}
theorem Callee.call (C : Callee X.prog X.w X.K X.mg X.base CX0 k x st ps sp) (hG : Gl X x) (hr : Room j X.A) (hg : X.A.guards = some [])
    (ha : PA X (e :: es) t) (hj : k ≤ j := by decide) (hdb : (x == ("__debug__" : Str)) = false := by decide)
    (he : starEach (e :: es) X.env = (false, eval e X.env) :: starEach es X.env := by rfl)
    (hpl : (backTo pos (starEach es X.env)).any (·.1) = false := by rfl) :
    PE X (.Call (.Name x p) (e :: es) [] pos) (tCall sp [] E0 t) := by
  obtain ⟨f, fd, hm, F, b, G⟩ := C.ex
  exact ge_call G (hr.mono hj) hg hG hm F.kp b .nil pass0 ha hdb he hpl
theorem Callee.call0 (C : Callee X.prog X.w X.K X.mg X.base CX0 k x st ps sp) (hG : Gl X x) (hr : Room j X.A) (hg : X.A.guards = some [])
    (hj : k ≤ j := by decide) (hdb : (x == ("__debug__" : Str)) = false := by decide) :
    PE X (.Call (.Name x p) [] [] pos) (tCall sp [] E0 tNil) := by
  obtain ⟨f, fd, hm, F, b, G⟩ := C.ex
  exact ge_call0 G (hr.mono hj) hg hG hm F.kp b .nil pass0 hdb
theorem Callee.kw (C : Callee X.prog X.w X.K X.mg X.base CX0 k x st ps sp)
    (hb : ∀ (f : Addr) (fd : FuncData), Fun X.K x x st f fd → KwB X.K fd ps n ks g gV) (hG : Gl X x) (hr : Room j X.A) (hg : X.A.guards = some [])
    (ha : PA X (e :: es) t) (hkw : PK X kws tk) (hj : k ≤ j := by decide)
    (hall : (backToKw pos (keywordEach kws X.env)).all (·.1.isSome) = true := by rfl)
    (hks : (backToKw pos (keywordEach kws X.env)).filterMap (·.1) = ks := by rfl)
    (hdb : (x == ("__debug__" : Str)) = false := by decide)
    (he : starEach (e :: es) X.env = (false, eval e X.env) :: starEach es X.env := by rfl)
    (hpl : ((backTo pos (starEach (e :: es) X.env)).any (·.1) || (backToKw pos (keywordEach kws X.env)).any (·.1.isNone)) = false := by rfl) :
    PE X (.Call (.Name x p) (e :: es) kws pos) (tKw n ks.length sp gV E0 t tk) := by
  obtain ⟨f, fd, hm, F, b, G⟩ := C.ex
  exact ge_kw G (hr.mono hj) hg hG hm F.kp (hb f fd F) pass0 ha hkw hall hks hdb he hpl
theorem Callee.kw0 (C : Callee X.prog X.w X.K X.mg X.base CX0 k x st ps sp)
    (hb : ∀ (f : Addr) (fd : FuncData), Fun X.K x x st f fd → KwB X.K fd ps 0 ks g gV) (hG : Gl X x) (hr : Room j X.A) (hg : X.A.guards = some [])
    (hkw : PK X kws tk) (hj : k ≤ j := by decide)
    (hall : (backToKw pos (keywordEach kws X.env)).all (·.1.isSome) = true := by rfl)
    (hks : (backToKw pos (keywordEach kws X.env)).filterMap (·.1) = ks := by rfl)
    (hdb : (x == ("__debug__" : Str)) = false := by decide)
    (hpl : ((backTo pos (starEach [] X.env)).any (·.1) || (backToKw pos (keywordEach kws X.env)).any (·.1.isNone)) = false := by rfl) :
    PE X (.Call (.Name x p) [] kws pos) (tKw 0 ks.length sp gV E0 tNil tk) := by
  obtain ⟨f, fd, hm, F, b, G⟩ := C.ex
  exact ge_kw0 G (hr.mono hj) hg hG hm F.kp (hb f fd F) pass0 hkw hall hks hdb hpl
end

/-! ### the law's own call -/
theorem enter_law {P : Program} {w : World} {K : PySem.W.Frag} {mg mb : Str → Option Value} {CX : CXT} {k : Nat} {fa a : Addr} {fd : FuncData}
    {x : Str} {sp : Sp} {s₁ : Shared} {vs : List Value} {ns : List Int}
    (KX : K.In s₁.heap) (hns : s₁.heap.Ns mainGlobals mg) (hb : s₁.heap.Ns builtinsNs mb)
    (hbb : ∀ x : Str, x ≠ "__name__" → mb x = bootBuiltins x) (hlim : s₁.heap.NoLimit) (hg : s₁.gens = #[])
    (ha : s₁.heap.get? a = some { cls := .type "list", data := .seq vs.toArray }) (hi : IntsAre vs ns) (hl : ns.length ≤ sizeLine) (hr : Room k callerA)
    (F : ∀ base : Heap, K.In base → base.Ns mainGlobals mg → FnG P w K mg base CX k fa fd [x] sp)
    (hbind : ∀ (s : Shared) (u : Value), BindsTo s fd ⟨[u], []⟩ [(x, u)])
    (hsp : ∀ H : Hp, Only H → SqL K H a (ns.map V.int) → sp [.ref a] H (fun v _ => v = .bl true) fun _ _ _ => False)
    (hCX : ∀ H e s', CX [] H s₁ (fun _ _ _ => False) e s' → False) :
    codeAny (model P w) callerA (.call (.ref fa) ⟨[.ref a], []⟩)
      (fun r s' => r = .ok (.ret (.bool true)) ∧ OldK s₁.heap s'.heap ∧ s'.os = s₁.os ∧ AllBare s'.gens) s₁ := by
  have rv := vals_ints hi
  have lv := hi.length
  suffices core : ∀ H : Hp, Only H → SqL K H a (ns.map V.int) → HOk P w H s₁.heap → (∀ b, H b ≠ none → b = a) → (H a ≠ none → K.lookup a = none) →
      codeAny (model P w) callerA (.call (.ref fa) ⟨[.ref a], []⟩)
        (fun r s' => r = .ok (.ret (.bool true)) ∧ OldK s₁.heap s'.heap ∧ s'.os = s₁.os ∧ AllBare s'.gens) s₁ by
    cases hk : K.lookup a with
    | some o =>
      have e := KX a o hk
      rw [ha] at e
      obtain rfl := Option.some.inj e
      have nothing : ∀ b : Addr, ¬ ((fun _ => none : Hp) b ≠ none) := fun b z => z rfl
      refine core (fun _ => none) (fun _ => .inl rfl) ?_ ?_ (fun b z => (nothing b z).elim) fun z => (nothing a z).elim
      · exact .inr ⟨_, vs.toArray, _, hk, rfl, rfl, rfl, by rw [List.size_toArray, lv]; exact hl, by simpa using rv⟩
      · intro b u z
        cases (show (none : Option HO) = some u from z)
    | none =>
      have at_a : ∀ {b : Addr} {u : HO}, (if b = a then some (HO.frz { cls := .type "list", data := .seq vs.toArray } (.lst (ns.map V.int))) else none) = some u →
          b = a ∧ u = HO.frz { cls := .type "list", data := .seq vs.toArray } (.lst (ns.map V.int)) := by
        intro b u z
        by_cases q : b = a
        · rw [if_pos q] at z; exact ⟨q, (Option.some.inj z).symm⟩
        · rw [if_neg q] at z; cases z
      refine core (fun b => if b = a then some (.frz { cls := .type "list", data := .seq vs.toArray } (.lst (ns.map V.int))) else none) ?_
        (.inl (.inr ⟨{ cls := .type "list", data := .seq vs.toArray }, if_pos rfl⟩)) ?_ ?_ fun _ => hk
      · intro b
        by_cases q : b = a
        · exact .inr ⟨_, _, if_pos q⟩
        · exact .inl (if_neg q)
      · intro b u z
        obtain ⟨rfl, rfl⟩ := at_a z
        exact ⟨ha, by rw [List.length_map]; exact hl, vs, _, rv, ha⟩
      · intro b z
        by_cases q : b = a
        · exact q
        · exact (z (if_neg q)).elim
  intro H hO hS hok hA hK
  have notDict : ∀ {b : Addr} {o : Obj} {es : Array DictEntry} {ep : Nat}, s₁.heap.get? b = some o → o.data = .dict es ep → H b = none := by
    intro b o es ep e d
    cases q : H b with
    | none => rfl
    | some u =>
      obtain rfl : b = a := hA b (by rw [q]; simp)
      rw [ha] at e
      obtain rfl := Option.some.inj e
      cases (show Data.seq vs.toArray _ = Data.dict es ep from d)
  have nsK : ∀ {b : Addr} {m : Str → Option Value}, s₁.heap.Ns b m → (hidT s₁.heap H).Ns b m := by
    rintro b m ⟨o, es, ep, e, d, r⟩
    exact ⟨o, es, ep, hidT_get e (notDict e d), d, r⟩
  have inB : K.In (hidT s₁.heap H) := by
    intro b o e
    refine hidT_get (KX b o e) ?_
    cases q : H b with
    | none => rfl
    | some u =>
      obtain rfl : b = a := hA b (by rw [q]; simp)
      rw [hK (by rw [q]; simp)] at e
      cases e
  obtain ⟨mc, lim1, lim2⟩ := hlim
  have hM : Mod K mg (hidT s₁.heap H) := ⟨inB, nsK hns, ⟨mb, nsK hb, hbb⟩, mc, nsK lim1, lim2⟩
  have e0 : Env0 P w K mg (hidT s₁.heap H) callerA [] s₁ H :=
    ⟨rfl, hM, fun b o e => of_hidT e, Nat.le_of_eq (hidT_size _ _), trivial, fun b hb => absurd (show b ∈ ([] : List Addr) from hb) (by simp), hok, .of_eq hg⟩
  refine codeAny_mono ((F _ inB (nsK hns)).go callerA [] s₁ H ⟨[.ref a], []⟩ [.ref a] [.ref a] _ _ hr rfl e0 (hbind s₁ (.ref a)) (.cons rfl .nil) (hsp H hO hS)) ?_
  intro r s' h
  cases r with
  | error e => exact (hCX H e s' h).elim
  | ok fl =>
    cases fl with
    | next => exact False.elim h
    | brk => exact False.elim h
    | cont => exact False.elim h
    | ret u =>
      obtain ⟨v, H', os, bare, un, hok', r', q⟩ := h
      obtain rfl : v = .bl true := q
      obtain rfl : u = Value.bool true := r'
      refine ⟨rfl, OldK.of_keep ?_, os, bare⟩
      intro b o e
      cases q : H b with
      | none => exact un.keep b o e q (by intro z; exact absurd (show b ∈ ([] : List Addr) from z) (by simp)) (by simp)
      | some u =>
        rcases hO b with z | ⟨ob, xs, z⟩
        · rw [q] at z; cases z
        · obtain ⟨e1, _⟩ := hok b _ z
          obtain ⟨e2, _⟩ := hok' b _ (un.frzs b ob _ z)
          rw [e] at e1
          cases e1
          exact e2

theorem walk_law {l : PySem.W.OpenLaw} {n k : Nat} {q : Program} {loose : List Str} {XP : (Str → Option Value) → Heap → Prop}
    {YP : World → Heap → Prop} {d : DefRec} {K : Params → PySem.W.Frag} {sp : PySem.W.Frag → Sp} {x : Str}
    (hn : l.most = some n) (hn2 : n ≤ sizeLine) (hdf : d.params.defaults = []) (hr : Room k callerA)
    (hY : ∀ (w : World) (h : Heap), YP w h → (K w.params).In h)
    (F : ∀ (w : World) (mg : Str → Option Value) (fa : Addr) (h : Heap), (K w.params).In h → h.Ns mainGlobals mg → mg d.name = some (.ref fa) →
      ∃ fd : FuncData, (∀ (s : Shared) (u : Value), BindsTo s fd ⟨[u], []⟩ [(x, u)]) ∧
        ∀ base : Heap, (K w.params).In base → base.Ns mainGlobals mg → FnG l.prog w (K w.params) mg base CX0 k fa fd [x] (sp (K w.params)))
    (hsp : ∀ (K : PySem.W.Frag) (H : Hp) (a : Addr) (ns : List Int), ns.length ≤ n → Only H → SqL K H a (ns.map V.int) →
      sp K [.ref a] H (fun v _ => v = .bl true) fun _ _ _ => False) :
    PySem.W.WalkO q loose XP YP l.row.toRowW d [] (fun f vs => PySem.call f vs) := by
  refine Att.attach_call hn hdf ?_
  intro w s₀ s₁ mg mb fa o pm cd doc a vs ns G Y ho hd hcd hmg hobj hints hlen hg
  have KX := hY w _ Y
  obtain ⟨fd, hb, hF⟩ := F w mg fa _ KX G.T.g hmg
  exact enter_law KX G.T.g G.T.b G.T.builtins G.T.nolimit hg hobj hints (Nat.le_trans hlen hn2) hr hF hb
    (fun H hO hS => hsp (K w.params) H a ns hlen hO hS) fun H e s' z => z

/-! ### t[::-1] of a tuple -/
section
variable {prog : Program} {w : World} {A : Around} {E : Value → Shared → Prop} {s : Shared}
theorem revAdjust (n : Nat) : Builtin.Slice.sliceAdjust none none (-1) (n : Int) = ((n : Int) - 1, -1) := by
  first
  | rfl
  | simp [Builtin.Slice.sliceAdjust]
theorem revPlaces (n : Nat) : Builtin.Slice.slicePlaces ((n : Int) - 1) (-1) (-1) = n := by
  unfold Builtin.Slice.slicePlaces
  have h1 : ¬ ((-1 : Int) > 0) := by omega
  simp only [h1, if_false]
  by_cases h : (n : Int) - 1 > -1
  · simp only [h, if_true]
    have e : (-(-1) : Int) = 1 := by decide
    rw [e, Int.ediv_one]
    omega
  · simp only [h, if_false]
    omega
theorem revApplied {sl : Addr} {vs : Value} {n : Nat} {Q : Int × Int × Nat → Shared → Prop} (hs : s.heap.IsSliceOf sl .none .none vs)
    (ps : IsPart vs (some (-1))) (h : Q ((n : Int) - 1, -1, n) s) :
    wpAny (model prog w) A (Builtin.Slice.sliceApplied (.ref sl) (pure (n : Int))) Q E s := by
  obtain ⟨os, hos, hcs, hds⟩ := id hs
  unfold Builtin.Slice.sliceApplied Builtin.Slice.sliceFields
  refine wpAny_bind (wpAny_bind (wpAny_field hos hds (x := .none) rfl (wpAny_bind (wpAny_field hos hds (x := .none) rfl (wpAny_bind (wpAny_field hos hds (x := vs) rfl (wpAny_pure ?_)))))))
  refine wpAny_bind (HT.slicePart_ ps ?_)
  show wpAny _ _ (if ((-1 : Int) == 0) = true then _ else _) _ _ s
  rw [if_neg (by decide)]
  refine wpAny_bind (slicePart_none (wpAny_bind (slicePart_none (wpAny_bind (wpAny_pure ?_)))))
  show wpAny _ _ (match Builtin.Slice.sliceAdjust none none (-1) (n : Int) with | (lo, hi) => pure (lo, (-1 : Int), Builtin.Slice.slicePlaces lo hi (-1))) _ _ s
  rw [revAdjust n]
  show wpAny _ _ (pure ((n : Int) - 1, (-1 : Int), Builtin.Slice.slicePlaces ((n : Int) - 1) (-1) (-1))) _ _ s
  rw [revPlaces]
  exact wpAny_pure h
theorem revPick (xs : Array Value) : ((List.range xs.size).filterMap fun (m : Nat) => xs[((xs.size : Int) - 1 + (m : Int) * -1).toNat]?).toArray = xs.toList.reverse.toArray := by
  congr 1
  have e : (List.range xs.size).filterMap (fun (m : Nat) => xs[((xs.size : Int) - 1 + (m : Int) * -1).toNat]?) = ((List.range xs.size).map (fun k => xs.size - 1 - k)).filterMap (xs[·]?) := by
    rw [List.filterMap_map]
    congr 1
    funext m
    have q : ((xs.size : Int) - 1 + (m : Int) * -1).toNat = xs.size - 1 - m := by omega
    show xs[((xs.size : Int) - 1 + (m : Int) * -1).toNat]? = xs[xs.size - 1 - m]?
    rw [q]
  rw [e, PySem.W.krv_range, List.filterMap_reverse, PySem.W.krv_all]
theorem getItem_tuple_rev {t sl : Addr} {items : Array Value} {vs : Value} {Q : Value → Shared → Prop} (ht : IsTup s.heap t items)
    (hs : s.heap.IsSliceOf sl .none .none vs) (ps : IsPart vs (some (-1)))
    (h : Q (.ref s.heap.objs.size) { s with heap := s.heap.push { cls := .type "tuple", data := .seq items.toList.reverse.toArray } })
    (hsz : items.size ≤ sizeLine) : wpAny (model prog w) A (getItem (.ref t) (.ref sl)) Q E s := by
  have hok : sizeOk (.seq items.toList.reverse.toArray) := by
    show items.toList.reverse.toArray.size ≤ sizeLine
    rw [List.size_toArray, List.length_reverse, Array.length_toList]
    exact hsz
  obtain ⟨os, hos, hcs, hds⟩ := id hs
  have hTs : s.TypeIs (.ref sl) "slice" := ⟨os, hos, hcs⟩
  unfold getItem
  try with_reducible refine wpAny_holding ?_
  first | refine wpAny_bind (wpAny_pure ?_) | skip
  refine wpAny_bind (wpAny_sequenceKey ht.typeIs (by decide) ?_)
  refine wpAny_bind (wpAny_callSpecial?_slot (name := Str.ofString "__getitem__") ht.typeIs PyProof.Rows.slot_tuple_getitem
    (wpAny_call_entry PyProof.Rows.slot_tuple_getitem ht.typeIs entry_tuple_getitem ?_ (args_tuple_getitem _ _)))
  show wpAny _ _ (Builtin.Tuple.tupleItemsOf (.ref t) >>= _) _ _ s
  refine wpAny_bind (tupleItemsOf_ ht ?_)
  refine wpAny_bind (wpAny_typeOf hTs ?_)
  rw [if_pos (by decide)]
  refine wpAny_bind (revApplied hs ps ?_)
  have hno : ¬ ((((items.size : Int) - 1) == 0 && (-1 : Int) == 1 && items.size == items.size) = true) := by
    intro q
    rw [Bool.and_eq_true, Bool.and_eq_true] at q
    exact absurd q.1.2 (by decide)
  show wpAny _ _ (if (((items.size : Int) - 1) == 0 && (-1 : Int) == 1 && items.size == items.size) = true then _ else _) _ _ s
  rw [if_neg hno, revPick]
  first
    | exact wpAny_bind (m := Builtin.Tuple.tupleExact _) (wpAny_newObj_type (wpAny_pure ⟨_, rfl, wpAny_pure h⟩) hok)
    | exact wpAny_bind (m := Builtin.Tuple.tupleExact _) (wpAny_newObj_type (wpAny_bind (wpAny_pure (wpAny_pure ⟨_, rfl, wpAny_pure h⟩))) hok)
    | exact wpAny_bind (wpAny_bind (m := Builtin.Tuple.tupleExact _) (wpAny_newObj_type (wpAny_pure (wpAny_pure ⟨_, rfl, wpAny_pure h⟩)) hok))
    | exact wpAny_bind (wpAny_bind (m := Builtin.Tuple.tupleExact _) (wpAny_newObj_type (wpAny_pure ⟨_, rfl, wpAny_pure h⟩) hok))
end
section
variable {X : Cx}
def tRevT (K : PySem.W.Frag) (te : TE) : TE := fun σ H Q => te σ H fun x H1 =>
  ∃ a xs, x = .ref a ∧ SqT K H1 a xs ∧ ∀ p, H1 p = none → Q (.ref p) (upd H1 p (.tup xs.reverse))
theorem pe_revT {e : Expr} {te : TE} {k : Nat} {p1 p2 p3 pos : Pos} (he : PE X e te) :
    PE X (.Subscript e (.Slice none none (some (.UnaryOp .USub (.Constant (.int 1) k p1) p2)) p3) pos) (tRevT X.K te) := by
  constructor
  intro pins s σ H Q I h
  refine Subscript_ (thn (he.run pins s σ H _ I h) ?_)
  rintro v s1 ⟨x, H1, I1, r1, a, xs, rfl, hx, q⟩
  cases r1
  have hst : PO X (some (.UnaryOp .USub (.Constant (.int 1) k p1) p2)) (tPart (tUn (rU fun i => .int (-i)) (tC (.int 1)))) := po_some (pe_un un_neg pe_int)
  refine wpAny_Slice (thn (po_none.run pins s1 σ H1 (fun o H2 => o = none ∧ H2 = H1) I1 ⟨rfl, rfl⟩) ?_)
  rintro vl s2 ⟨l, H2, I2, pl, rfl, rfl⟩
  refine thn (po_none.run pins s2 σ H2 (fun o H3 => o = none ∧ H3 = H2) I2 ⟨rfl, rfl⟩) ?_
  rintro vu s3 ⟨u, H3, I3, pu, rfl, rfl⟩
  refine thn (hst.run pins s3 σ H3 (fun o H4 => o = some (-1) ∧ H4 = H3) I3 ⟨1, rfl, -1, rfl, rfl, rfl⟩) ?_
  rintro vs s4 ⟨o, H4, I4, ps, rfl, rfl⟩
  cases pl
  cases pu
  have I5 : Inv X pins σ H4 { s4 with heap := s4.heap.push { cls := .type "slice", data := .fields #[.none, .none, vs] } } :=
    I4.kept (t' := s4.toks) fun b ob q => Heap.get?_push_of_some _ q
  obtain ⟨its, r, ht, hz⟩ := I5.tuple hx
  show wpAny (model X.prog X.w) X.A (subscriptTail e (.Slice none none (some (.UnaryOp .USub (.Constant (.int 1) k p1) p2)) p3) (.ref a) (.ref s4.heap.objs.size)) (EP X pins σ Q) X.xe { s4 with heap := s4.heap.push { cls := .type "slice", data := .fields #[.none, .none, vs] } }
  refine tail_any (ops := [.ref a, .ref s4.heap.objs.size]) ht.typeIs (PyProof.Rows.slot_tuple_getitem.lookup) ?_ (by with_unfolding_all rfl)
  refine getItem_tuple_rev ht (Heap.IsSliceOf.new _ .none .none vs) ps ?_ (by rw [List.size_toArray, ← r.length]; exact hz)
  refine ⟨.ref _, _, I5.laid (t' := s4.toks) (o := .tup xs.reverse) (fun b ob q => Heap.get?_push_of_some _ q) (Nat.le_refl _) ?_, rfl, q _ (I5.hok.fresh (Nat.le_refl _))⟩
  exact ⟨by rw [List.length_reverse]; exact hz, _, r.reverse, IsTup.new _ _⟩
end

/-! ### heaps: all but some objects stay -/
def But (l : List Addr) (H H' : Hp) : Prop := ∀ b o, b ∉ l → H b = some o → H' b = some o
theorem But.refl (l : List Addr) (H : Hp) : But l H H := fun _ _ _ h => h
theorem But.trans {l : List Addr} {H H1 H2 : Hp} (a : But l H H1) (b : But l H1 H2) : But l H H2 := fun c o n h => b c o n (a c o n h)
theorem But.mono {l m : List Addr} {H H1 : Hp} (a : But l H H1) (h : ∀ b ∈ l, b ∈ m) : But m H H1 := fun c o n e => a c o (fun z => n (h c z)) e
theorem But.of {H H1 : Hp} (l : List Addr) (a : Same H H1) : But l H H1 := fun c o _ h => a c o h
theorem But.nil {H H1 : Hp} (a : But [] H H1) : Same H H1 := fun c o h => a c o (by simp) h
theorem But.new {l : List Addr} {H H1 : Hp} {p : Addr} {o : HO} (a : But l H H1) (h : H1 p = none) : But l H (upd H1 p o) := fun c u n e => by
  have q := a c u n e
  rw [upd_ne (ne_of_none q h)]; exact q
theorem But.set {l : List Addr} {H H1 : Hp} {p : Addr} {o : HO} (a : But l H H1) (h : p ∈ l) : But l H (upd H1 p o) := fun c u n e => by
  have q : c ≠ p := fun z => n (by rw [z]; exact h)
  rw [upd_ne q]; exact a c u n e
theorem But.fresh {l : List Addr} {H H1 : Hp} {p : Addr} (a : But l H H1) (h : H1 p = none) (n : p ∉ l) : H p = none := by
  cases q : H p with
  | none => rfl
  | some o => rw [a p o n q] at h; cases h
theorem same_new {H : Hp} {p : Addr} {o : HO} (h : H p = none) : Same H (upd H p o) := fun c u e => by rw [upd_ne (ne_of_none e h)]; exact e
theorem same_add {H H1 : Hp} {p : Addr} {o : HO} (a : Same H H1) (h : H1 p = none) : Same H (upd H1 p o) := fun c u e => same_new h c u (a c u e)
theorem But.sq {l : List Addr} {K : PySem.W.Frag} {H H' : Hp} {a : Addr} {xs : List V} (e : But l H H') (n : a ∉ l) (h : SqL K H a xs) : SqL K H' a xs := by
  rcases h with (h | ⟨o, h⟩) | h
  · exact .inl (.inl (e _ _ n h))
  · exact .inl (.inr ⟨o, e _ _ n h⟩)
  · exact .inr h
theorem But.get {l : List Addr} {H H' : Hp} {a : Addr} {o : HO} (e : But l H H') (n : a ∉ l) (h : H a = some o) : H' a = some o := e a o n h
theorem nin1 {a b : Addr} (h : a ≠ b) : a ∉ [b] := by simpa using h
theorem nin2 {a b c : Addr} (h : a ≠ b) (h2 : a ≠ c) : a ∉ [b, c] := by simp [h, h2]
/-- where a test is decided -/
theorem iteD {p A B : Prop} [Decidable p] (h1 : p → A) (h2 : ¬ p → B) : if decide p = true then A else B := by
  by_cases h : p
  · rw [if_pos (decide_eq_true h)]; exact h1 h
  · rw [if_neg (by rw [decide_eq_false h]; exact Bool.false_ne_true)]; exact h2 h
theorem iteN {p A B : Prop} [Decidable p] (h1 : ¬ p → A) (h2 : p → B) : if (!decide p) = true then A else B := by
  by_cases h : p
  · rw [decide_eq_true h]; exact iteF (h2 h)
  · rw [decide_eq_false h]; exact iteT (h1 h)
theorem iteDT {p A B : Prop} [Decidable p] (hp : p) (h1 : A) : if decide p = true then A else B := by rw [if_pos (decide_eq_true hp)]; exact h1
theorem iteDF {p A B : Prop} [Decidable p] (hp : ¬ p) (h1 : B) : if decide p = true then A else B := by rw [if_neg (by rw [decide_eq_false hp]; exact Bool.false_ne_true)]; exact h1
theorem iteNF {p A B : Prop} [Decidable p] (hp : p) (h1 : B) : if (!decide p) = true then A else B := by rw [decide_eq_true hp]; exact iteF h1
theorem iteNT {p A B : Prop} [Decidable p] (hp : ¬ p) (h1 : A) : if (!decide p) = true then A else B := by rw [decide_eq_false hp]; exact iteT h1
theorem mapI_get {ns : List Int} {i : Nat} {y : V} (h : (ns.map V.int)[i]? = some y) : ∃ z, ns[i]? = some z ∧ y = V.int z := by
  rw [List.getElem?_map] at h
  cases e : ns[i]? with
  | none => rw [e] at h; cases h
  | some z => rw [e] at h; exact ⟨z, rfl, (Option.some.inj h).symm⟩
theorem get_lt {α : Type} {l : List α} {i : Nat} {x : α} (h : l[i]? = some x) : i < l.length := (List.getElem?_eq_some_iff.mp h).1
/-- zip of two tuples -/
theorem walk_zipT {K : PySem.W.Frag} {a b : Addr} {xs ys : List V} {n : Nat} (hn : n = min xs.length ys.length) :
    Walk (RZ.ItzT K a b) n (fun H => SqT K H a xs ∧ SqT K H b ys) (YPair (fun i => xs[i]?) (fun i => ys[i]?)) := by
  subst hn
  refine ⟨?_, ?_, ?_⟩
  · intro i H hi q
    have h1 : i < xs.length := by omega
    have h2 : i < ys.length := by omega
    exact ⟨xs, ys, xs[i], ys[i], q.1, q.2, by simp [h1], by simp [h2]⟩
  · intro H q
    exact ⟨xs, ys, q.1, q.2, by omega⟩
  · rintro i H v H' hi q ⟨T, x, z, h1, h2, h3, h4, h5⟩
    exact ⟨T, x, z, h1, h2, h3, h4 xs q.1, h5 ys q.2⟩
theorem sqT_of {K : PySem.W.Frag} {H : Hp} {a : Addr} {xs : List V} (h : H a = some (.tup xs)) : SqT K H a xs := SqT.of h

theorem cut_tail (xs : List V) : cutV xs (some 1) none = xs.tail := by
  cases xs with
  | nil => rfl
  | cons x r =>
    show ((x :: r).drop (HT.sIx (r.length + 1) 0 (some ((1 : Nat) : Int)))).take (HT.sIx (r.length + 1) (r.length + 1) none - HT.sIx (r.length + 1) 0 (some ((1 : Nat) : Int))) = r
    rw [HT.sIx_nat, HT.sIx_none, Nat.min_eq_left (by omega), List.drop_one]
    show r.take (r.length + 1 - 1) = r
    exact List.take_of_length_le (by omega)
theorem not_whole1 {xs : List V} (h : 0 < xs.length) : ¬ (HT.sIx xs.length 0 (some 1) = 0 ∧ HT.sIx xs.length xs.length none = xs.length) := by
  rintro ⟨q, _⟩
  rw [show (1 : Int) = ((1 : Nat) : Int) from rfl, HT.sIx_nat, Nat.min_eq_left (by omega)] at q
  cases q
theorem sIx_none0 (n d : Nat) : HT.sIx n d none = d := rfl
theorem cut_take (xs : List V) (n : Nat) : cutV xs none (some (n : Int)) = xs.take n := by
  unfold cutV
  rw [HT.sIx_nat, HT.sIx_none, List.drop_zero, Nat.sub_zero]
  by_cases h : n ≤ xs.length
  · rw [Nat.min_eq_left h]
  · rw [Nat.min_eq_right (by omega), List.take_of_length_le (Nat.le_refl _), List.take_of_length_le (by omega)]
theorem sum_take_more {l : List Int} {i : Nat} {z : Int} (h : l[i]? = some z) : (l.take (i + 1)).sum = (l.take i).sum + z := sum_take h
theorem cut_ints (ns : List Int) (n : Nat) : cutV (ns.map V.int) none (some (n : Int)) = (ns.take n).map V.int := by rw [cut_take, List.map_take]
theorem atI_mem {α : Type} {xs : List α} {i : Int} (h0 : 0 ≤ i) (h1 : i < xs.length) : ∃ v, atI xs i = some v ∧ v ∈ xs := by
  have e : i = ((i.toNat : Nat) : Int) := by omega
  have hl : i.toNat < xs.length := by omega
  refine ⟨xs[i.toNat], ?_, List.getElem_mem hl⟩
  have q := atI_nat (List.getElem?_eq_getElem hl)
  rw [← e] at q
  exact q
theorem atI_neg1 {α : Type} {xs : List α} (h : xs ≠ []) : ∃ v, atI xs (-1) = some v ∧ xs[xs.length - 1]? = some v := by
  obtain ⟨ys, z, rfl⟩ : ∃ ys z, xs = ys ++ [z] := by
    cases q : xs.reverse with
    | nil => exact absurd (List.reverse_eq_nil_iff.mp q) h
    | cons z r => exact ⟨r.reverse, z, by rw [← List.reverse_reverse xs, q, List.reverse_cons]⟩
  exact ⟨z, atI_last _ _, by simp⟩
theorem But.to {l : List Addr} {H H1 : Hp} {p : Addr} {o : HO} (a : But l H H1) (h : H p = none) : But l H (upd H1 p o) := fun c u n e => by
  rw [upd_ne (ne_of_none e h)]; exact a c u n e
theorem updNe {H : Hp} {a b : Addr} {o u : HO} (h : H b = none) (e : H a = some u) : upd H b o a = some u := by rw [upd_ne (ne_of_none e h)]; exact e
theorem same_to {H H1 : Hp} {p : Addr} {o : HO} (a : Same H H1) (h : H p = none) : Same H (upd H1 p o) := fun c u e => by
  rw [upd_ne (ne_of_none e h)]; exact a c u e
theorem take_snoc {α : Type} {l : List α} {i : Nat} {x : α} (h : l[i]? = some x) : l.take (i + 1) = l.take i ++ [x] := by
  have hi := get_lt h
  rw [List.getElem?_eq_getElem hi] at h
  rw [← Option.some.inj h]
  exact (List.take_append_getElem hi).symm
theorem map_get {α β : Type} {f : α → β} {l : List α} {i : Nat} {x : α} (h : l[i]? = some x) : (l.map f)[i]? = some (f x) := by rw [List.getElem?_map, h]; rfl
theorem same_but {H H1 H2 : Hp} {p : Addr} (s : Same H H1) (n : H p = none) (b : But [p] H1 H2) : Same H H2 := fun c u e =>
  b c u (nin1 (ne_of_none e n)) (s c u e)
theorem shown_small {d : PyData} (h : d.leavesShort 2000 = true) (hb : d.bulk ≤ 8000) : d.shown.length ≤ sizeLine := by
  have q := PyData.shown_le_bulk 2000 (by decide) d h
  have e : (2000 + 2) * d.bulk ≤ 2002 * 8000 := Nat.mul_le_mul_left 2002 hb
  rw [sizeLine_eq]
  omega
theorem int_short {i : Int} (h : i.natAbs.log2 < 1920) : (PyData.int i).leavesShort 2000 = true := by
  simp only [PyData.leavesShort, decide_eq_true_eq]
  exact Nat.le_trans (PyProof.Rows.int_text_len_1921 h) (by decide)
theorem log_small {i : Int} {k : Nat} (h : i.natAbs < 2 ^ k) (h0 : 0 < k) (hk : k ≤ 1920) : i.natAbs.log2 < 1920 := Nat.lt_of_lt_of_le (PySem.Flt.log2_lt_of h0 h) hk
theorem room150 {k : Nat} {A : Around} (r : Room k A) : A.units + 150 < cLine := by have := r.un; omega
/-! ### within a comprehension's block -/
section
variable {X : Cx} {s : Shared} {H : Hp} {sc : Scope} {env : Env} {fp : List Addr}
theorem ix_tupB : IxR (X.blk s H sc env fp) (rIxT X.K) := ix_tup
theorem ix_listB : IxR (X.blk s H sc env fp) (rIxL X.K) := ix_list
theorem sl_listB : SlR (X.blk s H sc env fp) (rSlL X.K) := sl_list
theorem sl_tupB : SlR (X.blk s H sc env fp) (rSlT X.K) := sl_tup
theorem sl_tupAB : SlR (X.blk s H sc env fp) (rSlA X.K) := sl_tupA
theorem pg_tupB {es : List Expr} {k : Nat} {t : TGs} {n : Nat} {pos : Pos} (hc : X.calm = true) (h : PGs (X.blk s H sc env fp) es t)
    (hn : (assignEach es env).length = n := by rfl) (hst : (assignEach es env).findIdx? (·.1) = none := by rfl) :
    PG (X.blk s H sc env fp) (.Tuple es k pos) (gTup X.K n t) := pg_tup (X := X.blk s H sc env fp) hc h hn hst
theorem op_eqDB (hu : X.A.units + 64 < cLine) : OpR (X.blk s H sc env fp) (compareOp .Eq) (rEqD X.K) := op_eqD hu
theorem op_neDB (hu : X.A.units + 64 < cLine) : OpR (X.blk s H sc env fp) (compareOp .NotEq) (rNeD X.K) := op_neD hu
end
/-! ### cuts: what is known in the middle -/
section
variable {X : Cx} {e : Expr} {st : Stmt} {sts : List Stmt} {t : TE} {u : TS}
def eCut (t : TE) : TE := fun σ H Q => ∃ R : VK, t σ H R ∧ ∀ v H', R v H' → Q v H'
theorem pe_cut (h : PE X e t) : PE X e (eCut t) := ⟨fun pins s σ H Q I ⟨R, h1, h2⟩ =>
  thn (h.run pins s σ H R I h1) fun _ _ ⟨v, H', I', r, q⟩ => ⟨v, H', I', r, h2 v H' q⟩⟩
def sCut (t : TS) : TS := fun D σ H => ∃ R : L2.St → Hp → Prop, t { D with nx := R } σ H ∧ ∀ σ' H', R σ' H' → D.nx σ' H'
theorem sp_next {pins : List (Addr × Obj)} {D : Ends} {R : L2.St → Hp → Prop} (h2 : ∀ σ' H', R σ' H' → D.nx σ' H') {f : Flow} {s : Shared}
    (h : SP X pins { D with nx := R } f s) : SP X pins D f s := by
  cases f with
  | next => obtain ⟨σ', H', I', q⟩ := h; exact ⟨σ', H', I', h2 σ' H' q⟩
  | ret v => exact h
  | brk => exact h
  | cont => exact h
theorem ps_cut (h : PS X st u) : PS X st (sCut u) := ⟨fun pins s σ H D I ⟨R, h1, h2⟩ =>
  thn (h.run pins s σ H { D with nx := R } I h1) fun _ _ q => sp_next h2 q⟩
end
/-- what a reading step does not look into -/
structure Box (p : Prop) : Prop where
  t : True
  out : p
theorem Box.of {p : Prop} (h : p) : Box p := ⟨trivial, h⟩
theorem pip_of {X : Cx} {op : Operator} {r : R2} (h : OpR X (inplaceOp op) r) : PIp X op r := h

/-! ### repr of data -/
section
variable {X : Cx}
theorem call_repr_data (hg : X.A.guards = some []) (hu : X.A.units + 150 < cLine) : CallR X (.builtin "repr") (fun xs H Q =>
    ∃ a d, xs = [.ref a] ∧ Dp X.K H (.ref a) d ∧ d.showable = true ∧ SeqAt.shaped d = true ∧ d.shown.length ≤ sizeLine ∧ Q (.str d.shown) H) := by
  intro pins s σ H xs us Q I r h
  obtain ⟨a, d, rfl, hd, hs, hsh, hz, q⟩ := h
  obtain ⟨u, rfl, ru⟩ := vals1 r
  obtain rfl : u = Value.ref a := ru
  obtain ⟨as, rd⟩ := Dp.reads I d (.ref a) (.ref a) hd rfl
  have hnd : d.hasDict = true → sysModules ∉ as := PyData.noDict_hsm (PyData.hasDict_of_canLay d (SeqAt.canLay_of_shaped hsh))
  have hdp := SeqAt.depth_of_shaped hsh
  refine repr_of_reads' rd hs hnd hg (by omega) (fun _ _ q => q) (fun h' u tk hk => ?_) hz
  exact ⟨.str _, H, I.kept hk, ⟨_, rfl⟩, q⟩
end
end Lay

set_option Elab.async false
set_option linter.all false
set_option maxRecDepth 100000
set_option maxHeartbeats 2000000
namespace K36
open PySem L2 Lay RZ SkE
def top (i : Nat) : Stmt := PySem.Challenge.pw_gridplaces_k36_lengths_of_ways.main.body.getD i (.Pass ⟨0, 0, 0, 0⟩)

/-! ### plain numbers -/
def dist (a b : Int × Int) : Int := (if b.1 - a.1 < 0 then -(b.1 - a.1) else b.1 - a.1) + (if b.2 - a.2 < 0 then -(b.2 - a.2) else b.2 - a.2)
def gap (a b : Int) : Int := (if b > a then b else a) - (if b < a then b else a)
/-- the steps' sum -/
def steps {α : Type} (f : α → α → Int) : List α → Int
  | [] => 0
  | [_] => 0
  | a :: b :: r => f a b + steps f (b :: r)
def pairs {α : Type} (f : α → α → Int) (l : List α) : List Int := (l.zip l.tail).map fun p => f p.1 p.2
theorem pairs_sum {α : Type} (f : α → α → Int) : ∀ l : List α, (pairs f l).sum = steps f l
  | [] => rfl
  | [_] => rfl
  | a :: b :: r => by
    have ih := pairs_sum f (b :: r)
    show f a b + (pairs f (b :: r)).sum = f a b + steps f (b :: r)
    rw [ih]
theorem pairs_len {α : Type} (f : α → α → Int) (l : List α) : (pairs f l).length = l.length - 1 := by
  unfold pairs
  rw [List.length_map, List.length_zip, List.length_tail]
  omega
theorem pairs_get {α : Type} (f : α → α → Int) {l : List α} {i : Nat} {a b : α} (h1 : l[i]? = some a) (h2 : l[i + 1]? = some b) : (pairs f l)[i]? = some (f a b) := by
  unfold pairs
  rw [List.getElem?_map]
  have e : (l.zip l.tail)[i]? = some (a, b) := by
    rw [List.getElem?_zip_eq_some]
    exact ⟨h1, by rw [List.getElem?_tail]; exact h2⟩
  rw [e]
  rfl
theorem steps_snoc {α : Type} (f : α → α → Int) (a b : α) : ∀ l : List α, steps f (l ++ [a, b]) = steps f (l ++ [a]) + f a b
  | [] => by show f a b + 0 = 0 + f a b; omega
  | [x] => by show f x a + (f a b + 0) = (f x a + 0) + f a b; omega
  | x :: y :: r => by
    have ih := steps_snoc f a b (y :: r)
    show f x y + steps f (y :: r ++ [a, b]) = f x y + steps f (y :: r ++ [a]) + f a b
    rw [ih]; omega
theorem steps_rev {α : Type} (f : α → α → Int) (hf : ∀ a b, f a b = f b a) : ∀ l : List α, steps f l.reverse = steps f l
  | [] => rfl
  | [_] => rfl
  | a :: b :: r => by
    have ih := steps_rev f hf (b :: r)
    rw [List.reverse_cons] at ih
    rw [List.reverse_cons, List.reverse_cons, List.append_assoc]
    show steps f (r.reverse ++ [b, a]) = f a b + steps f (b :: r)
    rw [steps_snoc, ih, hf b a]; omega
theorem dist_comm (a b : Int × Int) : dist a b = dist b a := by
  unfold dist
  repeat' split
  all_goals omega
theorem dist_gap (a b : Int × Int) : dist a b = gap a.1 b.1 + gap a.2 b.2 := by
  unfold dist gap
  repeat' split
  all_goals omega
theorem steps_gap : ∀ l : List (Int × Int), steps dist l = steps gap (l.map (·.1)) + steps gap (l.map (·.2))
  | [] => rfl
  | [_] => rfl
  | a :: b :: r => by
    have ih := steps_gap (b :: r)
    have h := dist_gap a b
    simp only [steps, List.map_cons] at ih ⊢
    rw [h, ih]
    omega
def Near (B : Int) (l : List (Int × Int)) : Prop := ∀ p ∈ l, -B ≤ p.1 ∧ p.1 ≤ B ∧ -B ≤ p.2 ∧ p.2 ≤ B
theorem steps_le (B : Int) (hB : 0 ≤ B) : ∀ l : List (Int × Int), Near B l → 0 ≤ steps dist l ∧ steps dist l ≤ 4 * B * l.length
  | [], _ => ⟨Int.le_refl _, by show (0 : Int) ≤ 4 * B * 0; omega⟩
  | [_], _ => ⟨Int.le_refl _, by show (0 : Int) ≤ 4 * B * 1; omega⟩
  | a :: b :: r, h => by
    have ih := steps_le B hB (b :: r) fun p hp => h p (List.mem_cons_of_mem _ hp)
    have ha := h a List.mem_cons_self
    have hb := h b (List.mem_cons_of_mem _ List.mem_cons_self)
    have hd : 0 ≤ dist a b ∧ dist a b ≤ 4 * B := by
      unfold dist
      repeat' split
      all_goals omega
    show 0 ≤ dist a b + steps dist (b :: r) ∧ dist a b + steps dist (b :: r) ≤ 4 * B * ((r.length + 1 + 1 : Nat) : Int)
    have e : 4 * B * ((r.length + 1 + 1 : Nat) : Int) = 4 * B * ((b :: r).length : Int) + 4 * B := by
      show 4 * B * ((r.length + 1 + 1 : Nat) : Int) = 4 * B * ((r.length + 1 : Nat) : Int) + 4 * B
      rw [show ((r.length + 1 + 1 : Nat) : Int) = ((r.length + 1 : Nat) : Int) + 1 by omega, Int.mul_add, Int.mul_one]
    rw [e]
    omega

/-! ### reading steps -/
local macro_rules | `(tactic| walk_at "side") => `(tactic| first | rfl | decide | exact ⟨by decide, by decide, by decide⟩ | (unfold CMulW; decide +kernel) | assumption | omega | exact Nat.le_of_ble_eq_true rfl | (show (0 : Int) < _; first | assumption | decide | omega) | exact Or.inl ⟨by omega, by omega⟩ | exact Or.inr ⟨by omega, by omega⟩ | exact ⟨by omega, by decide⟩ | exact Or.inr ⟨by (split <;> omega), by (split <;> omega)⟩)
local macro_rules | `(tactic| walk_at "at") => `(tactic| first | rfl | assumption)
local macro_rules | `(tactic| walk_at "rd1") => `(tactic| first
  | (refine ⟨_, rfl, ?_⟩)
  | (refine ⟨_, _, rfl, rfl, ?_⟩)
  | (refine ⟨_, _, _, _, rfl, rfl, SqL.of (by assumption), (by walk_at "at"), ?_⟩)
  | (refine ⟨_, _, _, _, rfl, rfl, SqT.of (by assumption), (by walk_at "at"), ?_⟩)
  | (refine ⟨_, _, _, _, rfl, rfl, (by assumption), (by walk_at "at"), ?_⟩)
  | (refine ⟨_, _, rfl, SqT.of upd_same, rfl, ?_⟩)
  | (refine ⟨_, _, rfl, Or.inl (by first | assumption | exact SqL.of (by assumption)), ?_⟩)
  | (refine ⟨_, _, rfl, Or.inr (by first | assumption | exact SqT.of (by assumption)), ?_⟩)
  | (refine ⟨_, _, rfl, ?_⟩)
  | (refine Or.inl ⟨_, rfl, ?_⟩)
  | (refine Or.inr ⟨_, rfl, ?_⟩)
  | (refine And.intro (by walk_at "side") ?_))
local macro_rules | `(tactic| walk_at "rd") => `(tactic| repeat walk_at "rd1")

/-! ### promises -/
/-- the pot: digits, a mixed number, how often it was drawn behind the digits -/
def PotAt (H : Hp) (a : Addr) (c : Int) : Prop := ∃ z0 z1 z2 : Int, H a = some (.lst [.int z0, .int z1, .int z2]) ∧ 0 ≤ z0 ∧ 0 ≤ z1 ∧ z1 < 2305843009213693951 ∧ 0 ≤ z2 ∧ z2 ≤ c
@[irreducible] def spTake : Sp := fun vs H Q _ => ∃ (a : Addr) (many c : Int), vs = [.ref a, .int many] ∧ PotAt H a c ∧ c ≤ 1000000 ∧ 0 < many ∧ many < 2 ^ 200 ∧
  ∀ (H' : Hp) (d : Int), But [a] H H' → PotAt H' a (c + 1) → 0 ≤ d → d < many → Q (.int d) H'
structure T36 (mg : Str → Option Value) : Prop where
  b_len : mg "len" = none
  b_abs : mg "abs" = none
  b_zip : mg "zip" = none
  b_range : mg "range" = none
  b_int : mg "int" = none
  b_max : mg "max" = none
  b_min : mg "min" = none
  b_sum : mg "sum" = none
  b_tuple : mg "tuple" = none
  b_repr : mg "repr" = none
section
variable {P : Program} {w : World} {K : PySem.W.Frag} {mg : Str → Option Value} {base : Heap} {f : Addr} {fd : FuncData}
abbrev s_take : Stmt := (top 4)
abbrev take.N : List Str := ["_law_pot", "_law_many", "_law_digit", "_law_turn", "_law_mixed"]
abbrev take.ps : List Str := ["_law_pot", "_law_many"]
theorem sc_take : FnScope take.N take.ps (defScope s_take) := ⟨rfl, rfl, rfl, by decide +kernel, rfl, by decide +kernel, by decide +kernel⟩
theorem ok_take (F : Fun K "_law_take" "_law_take" s_take f fd) : FnG P w K mg base CX0 1 f fd take.ps spTake := by
  refine gbody F sc_take (fun vs H Q E h => ?_) (fun cdv A outer s H vs Q E hr hg h => ?_)
  · unfold spTake at h
    obtain ⟨a, many, c, rfl, _⟩ := h
    rfl
  · unfold spTake at h
    obtain ⟨a, many, c, rfl, ⟨z0, z1, z2, hL, h0, h1, h1', h2, h2'⟩, hc, hm, hm', k⟩ := h
    refine ⟨_, (pss_cons (ps_if (pt_cmpR op_gt (pe_ix ix_list (pv 0) pe_int (fun _ _ => rfl)) pe_int (nomark _)) (pss_cons (ps_set (i := 2) sc_take.nd rfl (Or.inl rfl) (pe_op op_mod (pe_ix ix_list (pv 0) pe_int (fun _ _ => rfl)) (pv 1)))
      (pss_cons (ps_asg (pe_op op_fdivW (pe_ix ix_list (pv 0) pe_int (fun _ _ => rfl)) (pv 1)) (pg_sub (pv 0) pe_int set_list))
      (pss_one (ps_ret (pv 2))))) pss_nil)
      (pss_cons (ps_asg (pe_op op_add (pe_ix ix_list (pv 0) pe_int (fun _ _ => rfl)) pe_int) (pg_sub (pv 0) pe_int set_list))
      (pss_cons (ps_set (i := 3) sc_take.nd rfl (Or.inl rfl) (pe_ix ix_list (pv 0) pe_int (fun _ _ => rfl)))
      (pss_cons (ps_set (i := 4) sc_take.nd rfl (Or.inl rfl) (pe_op op_mod (pe_op op_mul (pe_op op_add (pe_op op_add (pe_ix ix_list (pv 0) pe_int (fun _ _ => rfl)) (pe_op op_mul (pe_op op_mul pe_int (pv 3)) (pv 3))) (pe_op op_mul pe_int (pv 3))) pe_int) pe_int))
      (pss_cons (ps_set (i := 4) sc_take.nd rfl (Or.inl rfl) (pe_op op_mod (pe_op op_mul (pv 4) (pe_op op_add (pe_op op_add (pe_op op_mod (pv 4) pe_int) (pe_op op_mul pe_int (pv 3))) pe_int)) pe_int))
      (pss_one (ps_ret (pe_op op_mod (pe_op op_add (pe_op op_fdivW (pv 4) pe_int) (pe_op op_fdivW (pv 4) pe_int)) (pv 1))))))))), ?_⟩
    walk_at "rd"
    refine iteD (fun hp => ?_) (fun hp => ?_)
    · walk_at "rd"
      refine ⟨wide_div (b := 200) hm (by omega) (by decide) (by decide), ?_⟩
      walk_at "rd"
      refine k _ _ ((But.refl _ H).set (by simp)) ⟨_, z1, z2, upd_same, Int.ediv_nonneg h0 (by omega), h1, h1', h2, by omega⟩ (Int.emod_nonneg _ (by omega)) (Int.emod_lt_of_pos _ hm)
    · have hL2 : (upd H a (.lst [.int z0, .int z1, .int (z2 + 1)])) a = some (.lst [.int z0, .int z1, .int (z2 + 1)]) := upd_same
      walk_at "rd"
      refine k _ _ ((But.refl _ H).set (by simp)) ⟨z0, z1, z2 + 1, upd_same, h0, h1, h1', by omega, by omega⟩ (Int.emod_nonneg _ (by omega)) (Int.emod_lt_of_pos _ hm)

/-! ### ways -/
def Pts (H : Hp) (vs : List V) (ps : List (Int × Int)) : Prop := vs.length = ps.length ∧ ∀ (i : Nat) (q : Int × Int), ps[i]? = some q → ∃ a : Addr, vs[i]? = some (.ref a) ∧ H a = some (.tup [.int q.1, .int q.2])
theorem Pts.keep {H H' : Hp} {vs : List V} {ps : List (Int × Int)} (h : Pts H vs ps) (e : ∀ a xs, H a = some (.tup xs) → H' a = some (.tup xs)) : Pts H' vs ps :=
  ⟨h.1, fun i q hq => let ⟨a, h1, h2⟩ := h.2 i q hq; ⟨a, h1, e _ _ h2⟩⟩
theorem Pts.snoc {H : Hp} {vs : List V} {ps : List (Int × Int)} (h : Pts H vs ps) {a : Addr} {q : Int × Int} (ha : H a = some (.tup [.int q.1, .int q.2])) : Pts H (vs ++ [.ref a]) (ps ++ [q]) := by
  refine ⟨by rw [List.length_append, List.length_append, h.1]; rfl, ?_⟩
  intro i r hr
  by_cases hi : i < ps.length
  · rw [List.getElem?_append_left hi] at hr
    obtain ⟨b, h1, h2⟩ := h.2 i r hr
    exact ⟨b, by rw [List.getElem?_append_left (by rw [h.1]; exact hi)]; exact h1, h2⟩
  · rw [List.getElem?_append_right (by omega)] at hr
    have e : i = ps.length := by
      have := get_lt hr
      simp at this
      omega
    subst e
    simp at hr
    subst hr
    exact ⟨a, by rw [List.getElem?_append_right (by rw [h.1]; omega), h.1]; simp, ha⟩
theorem Pts.rev {H : Hp} {vs : List V} {ps : List (Int × Int)} (h : Pts H vs ps) : Pts H vs.reverse ps.reverse := by
  refine ⟨by rw [List.length_reverse, List.length_reverse, h.1], ?_⟩
  intro i q hq
  have hi := get_lt hq
  rw [List.length_reverse] at hi
  rw [List.getElem?_reverse hi] at hq
  obtain ⟨b, h1, h2⟩ := h.2 _ q hq
  exact ⟨b, by rw [List.getElem?_reverse (by rw [h.1]; exact hi), h.1]; exact h1, h2⟩
theorem Pts.take {H : Hp} {vs : List V} {ps : List (Int × Int)} (n : Nat) (h : Pts H vs ps) : Pts H (vs.take n) (ps.take n) := by
  refine ⟨by rw [List.length_take, List.length_take, h.1], ?_⟩
  intro i q hq
  rw [List.getElem?_take] at hq ⊢
  split at hq
  · rename_i hi
    rw [if_pos hi]
    exact h.2 i q hq
  · cases hq
theorem Pts.at {H : Hp} {vs : List V} {ps : List (Int × Int)} (h : Pts H vs ps) {i : Nat} {v : V} (hv : vs[i]? = some v) : ∃ (q : Int × Int) (a : Addr), ps[i]? = some q ∧ v = .ref a ∧ H a = some (.tup [.int q.1, .int q.2]) := by
  have hi := get_lt hv
  rw [h.1] at hi
  have hq : ps[i]? = some ps[i] := List.getElem?_eq_getElem hi
  obtain ⟨a, h1, h2⟩ := h.2 i _ hq
  rw [hv] at h1
  exact ⟨_, a, hq, Option.some.inj h1, h2⟩
@[irreducible] def spLen : Sp := fun vs H Q _ => ∃ (p : Addr) (ws : List V) (ps : List (Int × Int)), vs = [.ref p] ∧ H p = some (.tup ws) ∧ Pts H ws ps ∧ 0 < ps.length ∧ ps.length ≤ 1000 ∧
  ∀ H' : Hp, Same H H' → Q (.int (steps dist ps)) H'
abbrev s_length : Stmt := (top 1)
abbrev length.N : List Str := ["places", "many", "one", "other"]
abbrev length.ps : List Str := ["places"]
theorem sc_length : FnScope length.N length.ps (defScope s_length) := ⟨rfl, rfl, rfl, by decide +kernel, rfl, by decide +kernel, by decide +kernel⟩
theorem ok_length (F : Fun K "length" "length" s_length f fd) (T : T36 mg) : FnG P w K mg base CX0 1 f fd length.ps spLen := by
  refine gbody F sc_length (fun vs H Q E h => ?_) (fun cdv A outer s H vs Q E hr hg h => ?_)
  · unfold spLen at h
    obtain ⟨a, many, c, rfl, _⟩ := h
    rfl
  · unfold spLen at h
    obtain ⟨p, ws, ps, rfl, hp, hP, hn, hn', k⟩ := h
    refine ⟨_, (pss_cons (ps_set (i := 1) sc_length.nd rfl (Or.inl rfl) pe_int)
      (pss_cons (ps_for PassesOwn.never rfl (pi_zipA (by rfl) T.b_zip (pa_cons (pv 0) (pa_cons (pe_slice sl_tup (pv 0) (po_some pe_int) po_none) pa_nil))) (pg_tup rfl (pgs_cons (pg_name (i := 2) sc_length.nd rfl (Or.inl rfl)) (pgs_cons (pg_name (i := 3) sc_length.nd rfl (Or.inl rfl)) pgs_nil))) (pss_one (ps_aug (i := 1) sc_length.nd rfl (Or.inl rfl) (pe_op op_add (pe_callB call_abs (by rfl) T.b_abs (by decide +kernel) (pa_cons (pe_op op_sub (pe_ix ix_tup (pv 3) pe_int (fun _ _ => rfl)) (pe_ix ix_tup (pv 2) pe_int (fun _ _ => rfl))) pa_nil)) (pe_callB call_abs (by rfl) T.b_abs (by decide +kernel) (pa_cons (pe_op op_sub (pe_ix ix_tup (pv 3) pe_int (fun _ _ => rfl)) (pe_ix ix_tup (pv 2) pe_int (fun _ _ => rfl))) pa_nil))) (pip_of iop_add))))
      (pss_one (ps_ret (pv 1))))), ?_⟩
    walk_at "rd"
    refine ⟨p, ws, rfl, SqT.of hp, not_whole1 (by rw [hP.1]; exact hn), fun q hq => ?_⟩
    rw [cut_tail]
    refine ⟨p, q, ws, ws.tail, rfl, .inr ⟨SqT.of (same_new hq _ _ hp), SqT.of upd_same, ?_⟩⟩
    have hl : ps.length - 1 = min ws.length ws.tail.length := by rw [List.length_tail, hP.1]; omega
    refine for_it (walk_zipT hl) (fun i σ H' => ∃ v1 v2 : Option V, σ = [some (.ref p), some (.int ((pairs dist ps).take i).sum), v1, v2] ∧ Same H H' ∧ H' q = some (.tup ws.tail))
      ⟨none, none, rfl, same_new hq, upd_same⟩ (fun i σ H' _ ⟨_, _, _, sm, hq'⟩ => ⟨SqT.of (sm _ _ hp), SqT.of hq'⟩) ?_ ?_
    · rintro i x σ H1 H2 hi ⟨v1, v2, rfl, sm, hq'⟩ ⟨T, x, y, rfl, hT, rfl, hx, hy⟩
      obtain ⟨r1, a1, e1, rfl, m1⟩ := hP.at hx
      have hy : ws.tail[i]? = some y := hy
      rw [List.getElem?_tail] at hy
      obtain ⟨r2, a2, e2, rfl, m2⟩ := hP.at hy
      have sm2 := same_add (o := .tup [.ref a1, .ref a2]) sm hT
      have n1 := sm2 _ _ m1
      have n2 := sm2 _ _ m2
      walk_at "rd"
      refine ⟨some (.ref a1), some (.ref a2), ?_, sm2, same_new hT _ _ hq'⟩
      rw [sum_take_more (pairs_get dist e1 e2)]
      rfl
    · rintro σ H1 ⟨v1, v2, rfl, sm, hq'⟩
      walk_at "rd"
      have e : (pairs dist ps).take (ps.length - 1) = pairs dist ps := List.take_of_length_le (by rw [pairs_len]; omega)
      show Q (.int ((pairs dist ps).take (ps.length - 1)).sum) H1
      rw [e, pairs_sum]
      exact k _ sm

/-! ### the pot made -/
@[irreducible] def spBegin (K : PySem.W.Frag) : Sp := fun vs H Q _ => ∃ (a : Addr) (ns : List Int) (k : Nat), vs = [.ref a, .int (k : Int)] ∧ SqL K H a (ns.map V.int) ∧ k ≤ 100 ∧
  ∀ (H' : Hp) (p : Addr), Same H H' → H p = none → PotAt H' p 0 → Q (.ref p) H'
abbrev s_begin : Stmt := (top 3)
abbrev begin.N : List Str := ["_law_script", "_law_k", "_law_cell", "_law_seed", "_law_one"]
abbrev begin.ps : List Str := ["_law_script", "_law_k"]
theorem sc_begin : FnScope begin.N begin.ps (defScope s_begin) := ⟨rfl, rfl, rfl, by decide +kernel, rfl, by decide +kernel, by decide +kernel⟩
theorem ok_begin (F : Fun K "_law_begin" "_law_begin" s_begin f fd) (T : T36 mg) : FnG P w K mg base CX0 1 f fd begin.ps (spBegin K) := by
  refine gbody F sc_begin (fun vs H Q E h => ?_) (fun cdv A outer s H vs Q E hr hg h => ?_)
  · unfold spBegin at h
    obtain ⟨a, ns, k, rfl, _⟩ := h
    rfl
  · unfold spBegin at h
    obtain ⟨a, ns, k, rfl, hS, hk, kk⟩ := h
    refine ⟨_, (pss_cons (ps_set (i := 2) sc_begin.nd rfl (Or.inl rfl) (pe_cut (pe_ifExp (pt_cmpR op_lt (pv 1) (pe_callB call_len_seq (by rfl) T.b_len PySem.boot_len (pa_cons (pv 0) pa_nil)) (nomark _)) (pe_ix ix_list (pv 0) (pv 1) (fun _ _ => rfl)) pe_int)))
      (pss_cons (ps_set (i := 3) sc_begin.nd rfl (Or.inl rfl) (pe_op op_add pe_int (pe_op op_mul pe_int (pv 1))))
      (pss_cons (ps_for PassesOwn.never rfl (pi_list (pe_slice sl_list (pv 0) po_none (po_some pe_int))) (pg_name (i := 4) sc_begin.nd rfl (Or.inl rfl)) (pss_one (ps_set (i := 3) sc_begin.nd rfl (Or.inl rfl) (pe_op op_mod (pe_op op_add (pe_op op_add (pe_op op_mul (pv 3) pe_int) (pe_op op_mod (pv 4) pe_int)) pe_int) pe_int))))
      (pss_one (ps_ret (pe_lst (pa_cons (pe_op op_mul (pe_op op_mod (pe_callB call_abs (by rfl) T.b_abs (by decide +kernel) (pa_cons (pv 2) pa_nil)) (pe_op op_mulW (pe_op op_mulW (pe_op op_pow pe_int pe_int) (pe_op op_pow pe_int pe_int)) (pe_op op_pow pe_int pe_int))) (pe_callTy call_int1 (by rfl) T.b_int (by decide +kernel) (pa_cons (pe_cmpR op_ge (pe_callB call_abs (by rfl) T.b_abs (by decide +kernel) (pa_cons (pv 2) pa_nil)) (pe_op op_pow pe_int pe_int) (nomark _)) pa_nil))) (pa_cons (pv 3) (pa_cons pe_int pa_nil))))))))), ?_⟩
    refine ⟨fun v H' => H' = H ∧ ∃ c : Int, v = .int c, ?_, ?_⟩
    · walk_at "rd"
      refine iteD (fun hk => ?_) (fun _ => ?_)
      · have hk2 : k < (ns.map V.int).length := by omega
        have e : (ns.map V.int)[k]? = some (V.int ns[k]!) := by
          rw [List.length_map] at hk2
          rw [List.getElem?_map, List.getElem?_eq_getElem hk2, Option.map_some, getElem!_pos ns k hk2]
        refine ⟨_, rfl, _, rfl, a, _, _, _, rfl, rfl, hS, at_of rfl e, rfl, _, rfl⟩
      · exact ⟨rfl, _, rfl⟩
    · rintro v H' ⟨rfl, c, rfl⟩
      walk_at "rd"
      refine ⟨a, _, rfl, hS, fun q hq => ?_⟩
      rw [show (63 : Int) = ((63 : Nat) : Int) from rfl, cut_ints]
      refine ⟨q, rfl, ⟨_, SqL.of upd_same⟩, for_list (K := K) (a := q) (xs := (ns.take 63).map V.int) (fun i σ H2 => Box (∃ (z : Int) (v : Option V), σ = [some (.ref a), some (.int k), some (.int c), some (.int z), v] ∧ 0 ≤ z ∧ z < 2305843009213693951 ∧ Same H' H2 ∧ H2 q = some (.lst ((ns.take 63).map V.int))))
        ?_ (fun i σ H2 _ ⟨_, _, _, _, _, _, _, hq'⟩ => SqL.of hq') ?_ ?_⟩
      · exact .of ⟨_, none, rfl, by omega, by omega, same_new hq, upd_same⟩
      · rintro i y σ H2 hi ⟨_, z, v, rfl, h0, h1, sm, hq'⟩
        obtain ⟨x, hx, rfl⟩ := mapI_get hi
        walk_at "rd"
        exact .of ⟨_, some (.int x), rfl, by omega, by omega, sm, hq'⟩
      · rintro σ H2 ⟨_, z, v, rfl, h0, h1, sm, hq'⟩
        walk_at "rd"
        intro r hr
        refine kk _ r (same_add sm hr) (Same.free sm hr) ⟨_, z, 0, upd_same, ?_, h0, h1, Int.le_refl _, Int.le_refl _⟩
        refine Int.mul_nonneg (Int.emod_nonneg _ (by decide)) ?_
        split <;> omega

/-! ### places drawn -/
theorem PotAt.keep {H H' : Hp} {a : Addr} {c : Int} (h : PotAt H a c) (e : ∀ o, H a = some o → H' a = some o) : PotAt H' a c :=
  let ⟨z0, z1, z2, h1, h2⟩ := h
  ⟨z0, z1, z2, e _ h1, h2⟩
theorem PotAt.mono {H : Hp} {a : Addr} {c d : Int} (h : PotAt H a c) (e : c ≤ d) : PotAt H a d :=
  let ⟨z0, z1, z2, h1, h2, h3, h4, h5, h6⟩ := h
  ⟨z0, z1, z2, h1, h2, h3, h4, h5, by omega⟩
theorem PotAt.lst {H : Hp} {a : Addr} {c : Int} (h : PotAt H a c) : ∃ xs, H a = some (.lst xs) := let ⟨_, _, _, h1, _⟩ := h; ⟨_, h1⟩
theorem PotAt.set {H : Hp} {a p : Addr} {o : HO} {c : Int} (h : PotAt H a c) (e : a ≠ p) : PotAt (upd H p o) a c := h.keep fun o q => by rw [upd_ne e]; exact q
theorem PotAt.ne {H : Hp} {a p : Addr} {c : Int} (h : PotAt H a c) (e : H p = none) : a ≠ p := let ⟨_, q⟩ := h.lst; ne_of_none q e
theorem use_take {H : Hp} {Q : VK} {E : XK} {a : Addr} (many c : Int) (hP : PotAt H a c) (hc : c ≤ 1000000) (h0 : 0 < many) (h1 : many < 2 ^ 200)
    (k : ∀ (H' : Hp) (d : Int), But [a] H H' → PotAt H' a (c + 1) → 0 ≤ d → d < many → Q (.int d) H') : spTake ([.ref a, .int many] ++ []) H Q E := by
  unfold spTake
  exact ⟨a, many, c, rfl, hP, hc, h0, h1, k⟩
def pd (q : Int × Int) : PyData := .tuple [.int q.1, .int q.2]
theorem dp_pts {K : PySem.W.Frag} {H : Hp} : ∀ {ws : List V} {ps : List (Int × Int)}, Pts H ws ps → DpAll K H ws (ps.map pd)
  | [], [], _ => .nil
  | [], _ :: _, h => by cases h.1
  | _ :: _, [], h => by cases h.1
  | v :: ws, q :: ps, h => by
    obtain ⟨a, h1, h2⟩ := h.2 0 q rfl
    have e : v = .ref a := Option.some.inj h1
    subst e
    refine .cons (.tup (SqT.of h2) (.cons (.int _) (.cons (.int _) .nil))) (dp_pts ⟨Nat.succ.inj h.1, fun i r hr => h.2 (i + 1) r hr⟩)
theorem pd_lay : ∀ ps : List (Int × Int), PyData.canLayAll0 (ps.map pd) = true ∧ PyData.depthAll (ps.map pd) ≤ 1
  | [] => ⟨rfl, by simp [PyData.depthAll]⟩
  | q :: ps => by
    obtain ⟨h1, h2⟩ := pd_lay ps
    refine ⟨by simp [pd, PyData.canLayAll0, PyData.canLay0, h1], ?_⟩
    simp only [List.map_cons, PyData.depthAll, pd, PyData.depth]
    omega
theorem shaped_l (ps : List (Int × Int)) : SeqAt.shaped (.list (ps.map pd)) = true := by
  obtain ⟨h1, h2⟩ := pd_lay ps
  unfold SeqAt.shaped
  rw [Bool.and_eq_true]
  exact ⟨by simpa [PyData.canLay0] using h1, decide_eq_true (by simp only [PyData.depth]; omega)⟩
theorem shaped_t (ps : List (Int × Int)) : SeqAt.shaped (.tuple (ps.map pd)) = true := by
  obtain ⟨h1, h2⟩ := pd_lay ps
  unfold SeqAt.shaped
  rw [Bool.and_eq_true]
  exact ⟨by simpa [PyData.canLay0] using h1, decide_eq_true (by simp only [PyData.depth]; omega)⟩
def WayAt (H : Hp) (p : Addr) (ps : List (Int × Int)) : Prop := ∃ ws : List V, H p = some (.tup ws) ∧ Pts H ws ps
@[irreducible] def spPlaces : Sp := fun vs H Q _ => ∃ (a : Addr), vs = [.ref a] ∧ PotAt H a 0 ∧
  ∀ (H' : Hp) (p : Addr) (ps : List (Int × Int)), But [a] H H' → WayAt H' p ps → 0 < ps.length → ps.length ≤ 40 → Near (10 ^ 40) ps → Q (.ref p) H'
def In1 (q : Int × Int) : Prop := -10 ^ 40 ≤ q.1 ∧ q.1 ≤ 10 ^ 40 ∧ -10 ^ 40 ≤ q.2 ∧ q.2 ≤ 10 ^ 40
abbrev s_places : Stmt := (top 5)
abbrev places.N : List Str := ["_law_pot", "_law_found", "_law_wide", "_law_k", "_law_place"]
abbrev places.ps : List Str := ["_law_pot"]
theorem sc_places : FnScope places.N places.ps (defScope s_places) := ⟨rfl, rfl, rfl, by decide +kernel, rfl, by decide +kernel, by decide +kernel⟩
theorem ok_places (F : Fun K "_law_places" "_law_places" s_places f fd) (T : T36 mg) (C_take : Callee P w K mg base CX0 1 "_law_take" s_take take.ps spTake) : FnG P w K mg base CX0 2 f fd places.ps spPlaces := by
  refine gbody F sc_places (fun vs H Q E h => ?_) (fun cdv A outer s H vs Q E hr hg h => ?_)
  · unfold spPlaces at h
    obtain ⟨a, rfl, _⟩ := h
    rfl
  · unfold spPlaces at h
    obtain ⟨a, rfl, hP, kk⟩ := h
    refine ⟨_, (pss_cons (ps_par (i := 1) (j := 2) rfl sc_places.nd rfl rfl (by decide) rfl rfl (pa_cons (pe_lst pa_nil) (pa_cons (pe_ix ix_list (pe_lst (pa_cons pe_int (pa_cons pe_int (pa_cons (pe_op op_pow pe_int pe_int) pa_nil)))) (C_take.call rfl hr hg (pa_cons (pv 0) (pa_cons pe_int pa_nil))) (fun _ _ => rfl)) pa_nil)) (by rfl))
      (pss_cons (ps_for PassesOwn.never rfl (pi_range1 rfl T.b_range (pa_cons (pe_ix ix_list (pe_lst (pa_cons pe_int (pa_cons pe_int (pa_cons pe_int (pa_cons pe_int (pa_cons pe_int pa_nil)))))) (C_take.call rfl hr hg (pa_cons (pv 0) (pa_cons pe_int pa_nil))) (fun _ _ => rfl)) pa_nil)) (pg_name (i := 3) sc_places.nd rfl (Or.inl rfl)) (pss_cons (ps_set (i := 4) sc_places.nd rfl (Or.inl rfl) (pe_tup (pa_cons (pe_op op_add (pe_op op_sub (C_take.call rfl hr hg (pa_cons (pv 0) (pa_cons (pe_op op_sub (pe_op op_mul pe_int (pv 2)) pe_int) pa_nil))) (pv 2)) pe_int) (pa_cons (pe_op op_add (pe_op op_sub (C_take.call rfl hr hg (pa_cons (pv 0) (pa_cons (pe_op op_sub (pe_op op_mul pe_int (pv 2)) pe_int) pa_nil))) (pv 2)) pe_int) pa_nil))))
      (pss_cons (ps_cut (ps_if (PW.pt (pw_and (pt_cmpR (op_neD hr.units) (pv 1) (pe_lst pa_nil) (nomark _)) (pw_and1 (pt_cmpR op_eq (C_take.call rfl hr hg (pa_cons (pv 0) (pa_cons pe_int pa_nil))) pe_int (nomark _))))) (pss_one (ps_set (i := 4) sc_places.nd rfl (Or.inl rfl) (pe_ix ix_list (pe_lst (pa_cons (pe_ix ix_list (pv 1) (pe_un un_neg pe_int) (fun _ _ => rfl)) (pa_cons (pe_tup (pa_cons (pe_ix ix_tup (pe_ix ix_list (pv 1) (pe_un un_neg pe_int) (fun _ _ => rfl)) pe_int (fun _ _ => rfl)) (pa_cons (pe_ix ix_tup (pv 4) pe_int (fun _ _ => rfl)) pa_nil))) (pa_cons (pe_tup (pa_cons (pe_ix ix_tup (pv 4) pe_int (fun _ _ => rfl)) (pa_cons (pe_ix ix_tup (pe_ix ix_list (pv 1) pe_int (fun _ _ => rfl)) pe_int (fun _ _ => rfl)) pa_nil))) pa_nil)))) (C_take.call rfl hr hg (pa_cons (pv 0) (pa_cons pe_int pa_nil))) (fun _ _ => rfl)))) pss_nil))
      (pss_one (ps_expr (pe_bm PySem.F.plainAttrs_list PySem.F.slot_list_append PySem.F.type_list_append mt_append (pv 1) (pa_cons (pv 4) pa_nil)))))))
      (pss_one (ps_ret (pe_callTy call_tuple_of (by rfl) T.b_tuple (by decide +kernel) (pa_cons (pv 1) pa_nil)))))), ?_⟩
    walk_at "rd"
    intro l hl
    walk_at "rd"
    intro m hm
    walk_at "rd"
    have nal := hP.ne hl
    have nam : a ≠ m := (hP.set nal).ne hm
    refine use_take 3 0 ((hP.set nal).set nam) (by decide) (by decide) (by decide) (fun H1 d b1 P1 d0 d1 => ?_)
    have hl1 : H1 l = some (.lst []) := b1 _ _ (nin1 nal.symm) (updNe hm upd_same)
    have hm1 := b1 _ _ (nin1 nam.symm) upd_same
    obtain ⟨v, hv, hmem⟩ := atI_mem (xs := [V.int 3, .int 100, .int (10 ^ Int.toNat 40)]) d0 d1
    obtain ⟨wd, rfl, w3, w4⟩ : ∃ wd : Int, v = .int wd ∧ 3 ≤ wd ∧ wd ≤ 10 ^ 40 := by
      simp only [List.mem_cons, List.not_mem_nil, or_false] at hmem
      rcases hmem with rfl | rfl | rfl
      · exact ⟨_, rfl, by decide, by decide⟩
      · exact ⟨_, rfl, by decide, by decide⟩
      · exact ⟨_, rfl, by decide, by decide⟩
    walk_at "rd"
    intro n hn
    walk_at "rd"
    have nan := P1.ne hn
    refine use_take 5 1 (P1.set nan) (by decide) (by decide) (by decide) (fun H2 d2 b2 P2 d0 d1 => ?_)
    have hl2 : H2 l = some (.lst []) := b2 _ _ (nin1 nal.symm) (updNe hn hl1)
    have hn2 := b2 _ _ (nin1 nan.symm) upd_same
    obtain ⟨v, hv, hmem⟩ := atI_mem (xs := [V.int 1, .int 2, .int 3, .int 7, .int 40]) d0 d1
    obtain ⟨many, rfl, y1, y2⟩ : ∃ many : Int, v = .int many ∧ 1 ≤ many ∧ many ≤ 40 := by
      simp only [List.mem_cons, List.not_mem_nil, or_false] at hmem
      rcases hmem with rfl | rfl | rfl | rfl | rfl <;> exact ⟨_, rfl, by decide, by decide⟩
    walk_at "rd"
    have B2 : But [a] H H2 := ((((But.refl [a] H).to hl).new hm).trans b1).trans (((But.refl [a] H1).new hn).trans b2)
    refine for_range (lo := 0) (n := many.toNat) (fun i σ H' => Box (∃ (ws : List V) (ps : List (Int × Int)) (v3 v4 : Option V), σ = [some (.ref a), some (.ref l), some (.int wd), v3, v4] ∧
      PotAt H' a (2 + 4 * i) ∧ H' l = some (.lst ws) ∧ Pts H' ws ps ∧ ps.length = i ∧ Near (10 ^ 40) ps ∧ But [a] H H')) ?_ ?_ ?_
    · exact .of ⟨[], [], none, none, rfl, P2.mono (by omega), hl2, ⟨rfl, fun i q h => by cases h⟩, rfl, fun p hp => absurd hp (by simp), B2⟩
    · rintro i σ H3 hi ⟨_, ws, ps, v3, v4, rfl, P3, hl3, pt3, pl3, nr3, B3⟩
      have i40 : i ≤ 40 := by omega
      walk_at "rd"
      refine use_take (2 * wd - 1) (2 + 4 * i) P3 (by omega) (by omega) (by omega) (fun H4 x b4 P4 x0 x1 => ?_)
      walk_at "rd"
      refine use_take (2 * wd - 1) (2 + 4 * i + 1) P4 (by omega) (by omega) (by omega) (fun H5 y b5 P5 y0 y1 => ?_)
      walk_at "rd"
      intro t ht
      -- the new place
      have nat5 := P5.ne ht
      have hl5 : H5 l = some (.lst ws) := b5 _ _ (nin1 nal.symm) (b4 _ _ (nin1 nal.symm) hl3)
      have tk : ∀ b xs, H3 b = some (.tup xs) → upd H5 t (.tup [.int (x - wd + 1), .int (y - wd + 1)]) b = some (.tup xs) := fun b xs q => by
        obtain ⟨_, q3⟩ := P3.lst
        have nb : b ≠ a := ne_of q q3 (by intro z; cases z)
        have q5 := b5 _ _ (nin1 nb) (b4 _ _ (nin1 nb) q)
        exact updNe ht q5
      have pt6 := pt3.keep tk
      have hl6 := updNe (o := .tup [.int (x - wd + 1), .int (y - wd + 1)]) ht hl5
      have P6 := P5.set (o := .tup [.int (x - wd + 1), .int (y - wd + 1)]) nat5
      have B6 : But [a] H (upd H5 t (.tup [.int (x - wd + 1), .int (y - wd + 1)])) := ((B3.trans b4).trans b5).new ht
      have ht6 : (upd H5 t (.tup [.int (x - wd + 1), .int (y - wd + 1)])) t = some (.tup [.int (x - wd + 1), .int (y - wd + 1)]) := upd_same
      generalize upd H5 t (.tup [.int (x - wd + 1), .int (y - wd + 1)]) = H6 at tk pt6 hl6 P6 B6 ht6 ⊢
      have in6 : In1 (x - wd + 1, y - wd + 1) := by unfold In1; simp only; omega
      walk_at "rd"
      refine ⟨fun σ' H' => Box (∃ (u : Addr) (q : Int × Int), σ' = [some (.ref a), some (.ref l), some (.int wd), some (.int (0 + (i : Int))), some (.ref u)] ∧ H' u = some (.tup [.int q.1, .int q.2]) ∧ In1 q ∧ PotAt H' a (2 + 4 * i + 4) ∧ H' l = some (.lst ws) ∧ Pts H' ws ps ∧ But [a] H H'), ?_, ?_⟩
      · walk_at "rd"
        intro e he
        have hl7 := updNe (o := .lst []) he hl6
        have pt7 := pt6.keep (fun b xs q => updNe (o := .lst []) he q)
        have he7 : upd H6 e (.lst []) e = some (.lst []) := upd_same
        have ht7 := updNe (o := .lst []) he ht6
        have P7 := P6.set (o := .lst []) (P6.ne he)
        have B7 := B6.new (o := .lst []) he
        generalize upd H6 e (.lst []) = H7 at hl7 pt7 he7 ht7 P7 B7 ⊢
        refine ⟨.list (ps.map pd), .list [], .lst (SqL.of hl7) (dp_pts pt7), .lst (SqL.of he7) .nil, shaped_l ps, rfl, ?_⟩
        have ne0 : ps = [] → PyData.eqv (.list (ps.map pd)) (.list []) = true := fun z => by subst z; rfl
        generalize PyData.eqv (.list (ps.map pd)) (.list []) = bb at ne0 ⊢
        walk_at "rd"
        cases bb with
        | true =>
          refine iteF ?_
          exact .of ⟨t, _, rfl, ht7, in6, P7.mono (by omega), hl7, pt7, B7⟩
        | false =>
          refine iteT ?_
          walk_at "rd"
          refine use_take 6 (2 + 4 * i + 1 + 1) P7 (by omega) (by omega) (by omega) (fun H8 d8 b8 P8 _ _ => ?_)
          have hl8 : H8 l = some (.lst ws) := b8 _ _ (nin1 nal.symm) hl7
          have tk8 : ∀ b xs, H7 b = some (.tup xs) → H8 b = some (.tup xs) := fun b xs q => by
            obtain ⟨_, q3⟩ := P7.lst
            exact b8 _ _ (nin1 (ne_of q q3 (by intro z; cases z))) q
          have pt8 := pt7.keep tk8
          have ht8 := tk8 _ _ ht7
          have B8 := B7.trans b8
          walk_at "rd"
          refine iteD (fun _ => ?_) (fun _ => ?_)
          · have hps : ps ≠ [] := fun z => absurd (ne0 z) (by decide)
            have hlen : 0 < ps.length := List.length_pos_iff.mpr hps
            have hws : ws ≠ [] := fun z => by rw [z] at pt8; exact absurd pt8.1 (by show ¬ 0 = ps.length; omega)
            obtain ⟨vl, hvl, evl⟩ := atI_neg1 hws
            obtain ⟨ql, ul, eql, rfl, mul⟩ := pt8.at evl
            have e0 : ps[0]? = some ps[0] := List.getElem?_eq_getElem hlen
            obtain ⟨uf, euf, muf⟩ := pt8.2 0 _ e0
            have hvf : atI ws 0 = some (.ref uf) := atI_nat euf
            have inl : In1 ql := nr3 ql (List.mem_of_getElem? eql)
            have inf : In1 ps[0] := nr3 _ (List.getElem_mem hlen)
            generalize ps[0] = qf at muf inf
            walk_at "rd"
            intro p1 h1
            have hl9 := updNe (o := .tup [.int ql.1, .int (y - wd + 1)]) h1 hl8
            have ht9 := updNe (o := .tup [.int ql.1, .int (y - wd + 1)]) h1 ht8
            have mul9 := updNe (o := .tup [.int ql.1, .int (y - wd + 1)]) h1 mul
            have muf9 := updNe (o := .tup [.int ql.1, .int (y - wd + 1)]) h1 muf
            have hp9 : upd H8 p1 (.tup [.int ql.1, .int (y - wd + 1)]) p1 = some (.tup [.int ql.1, .int (y - wd + 1)]) := upd_same
            have pt9 := pt8.keep (fun b xs q => updNe (o := .tup [.int ql.1, .int (y - wd + 1)]) h1 q)
            have P9 := P8.set (o := .tup [.int ql.1, .int (y - wd + 1)]) (P8.ne h1)
            have B9 := B8.new (o := .tup [.int ql.1, .int (y - wd + 1)]) h1
            have pq1 : In1 (ql.1, y - wd + 1) := by unfold In1 at inl in6 ⊢; simp only at *; omega
            have pq2 : In1 (x - wd + 1, qf.2) := by unfold In1 at inf in6 ⊢; simp only at *; omega
            generalize upd H8 p1 (.tup [.int ql.1, .int (y - wd + 1)]) = H9 at hl9 ht9 mul9 muf9 hp9 pt9 P9 B9 ⊢
            walk_at "rd"
            intro p2 h2
            walk_at "rd"
            have ht10 := updNe (o := .tup [.int (x - wd + 1), .int qf.2]) h2 ht9
            have hp10 := updNe (o := .tup [.int (x - wd + 1), .int qf.2]) h2 hp9
            have mul10 := updNe (o := .tup [.int (x - wd + 1), .int qf.2]) h2 mul9
            have hl10 := updNe (o := .tup [.int (x - wd + 1), .int qf.2]) h2 hl9
            have hq10 : upd H9 p2 (.tup [.int (x - wd + 1), .int qf.2]) p2 = some (.tup [.int (x - wd + 1), .int qf.2]) := upd_same
            have pt10 := pt9.keep (fun b xs q => updNe (o := .tup [.int (x - wd + 1), .int qf.2]) h2 q)
            have P10 := P9.set (o := .tup [.int (x - wd + 1), .int qf.2]) (P9.ne h2)
            have B10 := B9.new (o := .tup [.int (x - wd + 1), .int qf.2]) h2
            intro p3 h3
            generalize upd H9 p2 (.tup [.int (x - wd + 1), .int qf.2]) = H10 at ht10 hp10 mul10 hl10 hq10 pt10 P10 B10 h3 ⊢
            walk_at "rd"
            refine use_take 3 (2 + 4 * i + 1 + 1 + 1) (P10.set (P10.ne h3)) (by omega) (by omega) (by omega) (fun H11 d11 b11 P11 e0 e1 => ?_)
            have np : p3 ≠ a := (P10.ne h3).symm
            have hL : H11 p3 = some (.lst [.ref ul, .ref p1, .ref p2]) := b11 _ _ (nin1 np) upd_same
            have tk11 : ∀ b xs, H10 b = some (.tup xs) → H11 b = some (.tup xs) := fun b xs q => by
              obtain ⟨_, q3⟩ := P10.lst
              exact b11 _ _ (nin1 (ne_of q q3 (by intro z; cases z))) (updNe h3 q)
            have hl11 : H11 l = some (.lst ws) := b11 _ _ (nin1 nal.symm) (updNe h3 hl10)
            have B11 : But [a] H H11 := (B10.new h3).trans b11
            have pt11 := pt10.keep tk11
            obtain ⟨v, hv, hmem⟩ := atI_mem (xs := [V.ref ul, .ref p1, .ref p2]) e0 e1
            obtain ⟨u, q, rfl, hu, inq⟩ : ∃ (u : Addr) (q : Int × Int), v = .ref u ∧ H11 u = some (.tup [.int q.1, .int q.2]) ∧ In1 q := by
              simp only [List.mem_cons, List.not_mem_nil, or_false] at hmem
              rcases hmem with rfl | rfl | rfl
              · exact ⟨ul, ql, rfl, tk11 _ _ mul10, inl⟩
              · exact ⟨p1, _, rfl, tk11 _ _ hp10, pq1⟩
              · exact ⟨p2, _, rfl, tk11 _ _ hq10, pq2⟩
            walk_at "rd"
            exact .of ⟨u, q, rfl, hu, inq, P11.mono (by omega), hl11, pt11, B11⟩
          · exact .of ⟨t, _, rfl, ht8, in6, P8.mono (by omega), hl8, pt8, B8⟩
      · rintro σ7 H7 ⟨_, u, q, rfl, hu7, in7, P7, hl7, pt7, B7⟩
        walk_at "rd"
        refine ⟨.inl ⟨rfl, _, SqL.of hl7⟩, ?_⟩
        walk_at "rd"
        have hz : ws.length < sizeLine := by rw [pt7.1, pl3]; exact Nat.lt_of_lt_of_le (by omega : i < 41) (by decide)
        refine ⟨l, ws, _, rfl, rfl, hl7, hz, ?_⟩
        have nlu : u ≠ l := ne_of hu7 hl7 (by intro z; cases z)
        have tkL : ∀ b xs, H7 b = some (.tup xs) → upd H7 l (.lst (ws ++ [.ref u])) b = some (.tup xs) := fun b xs e => by
          rw [upd_ne (ne_of e hl7 (by intro z; cases z))]; exact e
        refine .of ⟨ws ++ [.ref u], ps ++ [q], _, _, rfl, (P7.set nal).mono (by omega), upd_same, (pt7.keep tkL).snoc (tkL _ _ hu7), by rw [List.length_append, pl3]; rfl, ?_, B7.to hl⟩
        intro p hp
        rcases List.mem_append.mp hp with z | z
        · exact nr3 p z
        · rw [List.mem_singleton.mp z]; exact in7
    · rintro σ3 H3 ⟨_, ws, ps, v3, v4, rfl, P3, hl3, pt3, pl3, nr3, B3⟩
      walk_at "rd"
      refine ⟨l, ws, rfl, .inl ⟨SqL.of hl3, fun q hq => ?_⟩⟩
      refine kk _ q ps (B3.new hq) ⟨ws, upd_same, pt3.keep fun b xs e => updNe hq e⟩ (by omega) (by omega) nr3
end
end K36

set_option Elab.async false
set_option linter.all false
set_option maxRecDepth 100000
set_option maxHeartbeats 2000000
namespace K36
open PySem L2 Lay RZ SkE
/-! ### reading steps -/
local macro_rules | `(tactic| walk_at "side") => `(tactic| first | rfl | decide | exact ⟨by decide, by decide, by decide⟩ | (unfold CMulW; decide +kernel) | assumption | omega | exact Nat.le_of_ble_eq_true rfl | (show (0 : Int) < _; first | assumption | decide | omega) | exact Or.inl ⟨by omega, by omega⟩ | exact Or.inr ⟨by omega, by omega⟩ | exact ⟨by omega, by decide⟩ | exact Or.inr ⟨by (split <;> omega), by (split <;> omega)⟩)
local macro_rules | `(tactic| walk_at "at") => `(tactic| first | rfl | assumption)
local macro_rules | `(tactic| walk_at "rd1") => `(tactic| first
  | (refine ⟨_, rfl, ?_⟩)
  | (refine ⟨_, _, rfl, rfl, ?_⟩)
  | (refine ⟨_, _, _, _, rfl, rfl, SqL.of (by assumption), (by walk_at "at"), ?_⟩)
  | (refine ⟨_, _, _, _, rfl, rfl, SqT.of (by assumption), (by walk_at "at"), ?_⟩)
  | (refine ⟨_, _, _, _, rfl, rfl, (by assumption), (by walk_at "at"), ?_⟩)
  | (refine ⟨_, _, rfl, SqT.of upd_same, rfl, ?_⟩)
  | (refine ⟨_, _, rfl, Or.inl (by first | assumption | exact SqL.of (by assumption)), ?_⟩)
  | (refine ⟨_, _, rfl, Or.inr (by first | assumption | exact SqT.of (by assumption)), ?_⟩)
  | (refine ⟨_, _, rfl, ?_⟩)
  | (refine Or.inl ⟨_, rfl, ?_⟩)
  | (refine Or.inr ⟨_, rfl, ?_⟩)
  | (refine And.intro (by walk_at "side") ?_))
local macro_rules | `(tactic| walk_at "rd") => `(tactic| repeat walk_at "rd1")

section
variable {P : Program} {w : World} {K : PySem.W.Frag} {mg : Str → Option Value} {base : Heap} {f : Addr} {fd : FuncData}
/-! ### what is due -/
@[irreducible] def spDue : Sp := fun vs H Q _ => ∃ (p : Addr) (ws : List V) (ps : List (Int × Int)), vs = [.ref p] ∧ H p = some (.tup ws) ∧ Pts H ws ps ∧ ps.length ≤ 1000 ∧
  ∀ H' : Hp, Same H H' → Q (.int (steps dist ps)) H'
def ax (k : Nat) (q : Int × Int) : Int := if k = 0 then q.1 else q.2
def axs (ps : List (Int × Int)) : List Int := [steps gap (ps.map (ax 0)), steps gap (ps.map (ax 1))]
abbrev s_due : Stmt := (top 6)
abbrev due.N : List Str := ["_law_way", "_law_many", "_law_axis", "_law_numbers", "_law_place", "_law_one", "_law_two"]
abbrev due.ps : List Str := ["_law_way"]
theorem sc_due : FnScope due.N due.ps (defScope s_due) := ⟨rfl, rfl, rfl, by decide +kernel, rfl, by decide +kernel, by decide +kernel⟩
theorem ok_due (F : Fun K "_law_due" "_law_due" s_due f fd) (T : T36 mg) : FnG P w K mg base CX0 1 f fd due.ps spDue := by
  refine gbody F sc_due (fun vs H Q E h => ?_) (fun cdv A outer s H vs Q E hr hg h => ?_)
  · unfold spDue at h
    obtain ⟨a, many, c, rfl, _⟩ := h
    rfl
  · unfold spDue at h
    obtain ⟨p, ws, ps, rfl, hp, hP, hn, k⟩ := h
    refine ⟨_, (pss_cons (ps_set (i := 1) sc_due.nd rfl (Or.inl rfl) pe_int)
      (pss_cons (ps_for PassesOwn.never rfl (pi_range1 rfl T.b_range (pa_cons pe_int pa_nil)) (pg_name (i := 2) sc_due.nd rfl (Or.inr rfl)) (pss_cons (ps_setLc (i := 3) (own := [("_law_place", 4)]) (tt := tYes) rfl sc_due.nd rfl rfl (sw_true rfl rfl rfl (by decide +kernel)) (pi_tup (pv 0)) (blkOk_by (N := due.N) (sc := defScope s_due) (by decide +kernel)) (fun _ _ _ _ _ => (pg_name (i := 4) sc_due.nd rfl (Or.inl rfl))) (fun _ _ _ _ _ => pts_nil) (fun _ _ _ _ _ => (pe_ix ix_tupB (pv 4) (pv 2) (fun _ _ => rfl))))
      (pss_one (ps_set (i := 1) sc_due.nd rfl (Or.inl rfl) (pe_op op_add (pv 1) (pe_callB (cr_sum rfl) (by rfl) T.b_sum (by decide +kernel) (pa_cons (by exact (pe_lc (own := [("_law_one", 5), ("_law_two", 6)]) (tt := tYes) rfl sc_due.nd (pi_zipA (by rfl) T.b_zip (pa_cons (pv 3) (pa_cons (pe_slice sl_list (pv 3) (po_some pe_int) po_none) pa_nil))) (blkOk_by (N := due.N) (sc := defScope s_due) (by decide +kernel)) (fun _ _ _ _ _ => (pg_tupB (n := 2) rfl (by exact (pgs_cons (pg_name (i := 5) sc_due.nd rfl (Or.inl rfl) (Or.inr rfl)) (by exact (pgs_cons (pg_name (i := 6) sc_due.nd rfl (Or.inl rfl) (Or.inr rfl)) pgs_nil)))))) (fun _ _ _ _ _ => pts_nil) (fun _ _ _ _ _ => (pe_op op_sub (pe_callB (call_max2 rfl) (by rfl) T.b_max (by decide +kernel) (pa_cons (pv 5) (pa_cons (pv 6) pa_nil))) (pe_callB (call_min2 rfl) (by rfl) T.b_min (by decide +kernel) (pa_cons (pv 5) (pa_cons (pv 6) pa_nil))))))) pa_nil)))))))
      (pss_one (ps_ret (pv 1))))), ?_⟩
    walk_at "rd"
    refine for_range (lo := 0) (n := 2) (fun i σ H' => Box (∃ (v2 v3 : Option V), σ = [some (.ref p), some (.int ((axs ps).take i).sum), v2, v3, none, none, none] ∧ Same H H')) ?_ ?_ ?_
    · exact .of ⟨none, none, rfl, Same.refl H⟩
    · rintro i σ H1 hi ⟨_, v2, v3, rfl, sm⟩
      have hp1 := sm _ _ hp
      walk_at "rd"
      refine ⟨⟨ws, SqT.of hp1⟩, fun D hD => ?_⟩
      refine lc_it (walk_tup (xs := ws)) (fun j H2 => Box (Same H1 H2 ∧ H2 D = some (.lst (((ps.map (ax i)).take j).map V.int)))) ?_ (fun j H2 _ ⟨_, s2, _⟩ => SqT.of (s2 _ _ hp1)) ?_ ?_
      · exact .of ⟨same_new hD, upd_same⟩
      · rintro j x H2 _ hj ⟨_, s2, hD2⟩ ⟨rfl, hx⟩
        obtain ⟨q, a1, e1, rfl, m1⟩ := hP.at hx
        have m2 := s2 _ _ (sm _ _ m1)
        have hi2 : i = 0 ∨ i = 1 := by omega
        have hat : atI [V.int q.1, .int q.2] (0 + (i : Int)) = some (.int (ax i q)) := by rcases hi2 with rfl | rfl <;> rfl
        refine ⟨rfl, ?_⟩
        walk_at "rd"
        refine ⟨_, hD2, ?_, .of ⟨same_to s2 hD, ?_⟩⟩
        · rw [List.length_map, List.length_take]
          exact Nat.lt_of_le_of_lt (Nat.min_le_right _ _) (by rw [List.length_map]; exact small1000 hn)
        · rw [upd_same, take_snoc (map_get e1), List.map_append]
          rfl
      · rintro H2 ⟨_, s2, hD2⟩
        have el : ((ps.map (ax i)).take ws.length).map V.int = (ps.map (ax i)).map V.int := by
          rw [List.take_of_length_le (by rw [List.length_map, hP.1]; exact Nat.le_refl _)]
        rw [el] at hD2
        have nl : (ps.map (ax i)).length ≤ 1000 := by rw [List.length_map]; exact hn
        have eg : (axs ps)[i]? = some (steps gap (ps.map (ax i))) := by
          have hi2 : i = 0 ∨ i = 1 := by omega
          rcases hi2 with rfl | rfl <;> rfl
        generalize ps.map (ax i) = ns at hD2 nl eg
        walk_at "rd"
        refine ⟨D, _, rfl, SqL.of hD2, fun t ht => ?_⟩
        rw [cut_tail]
        have hD3 := updNe (o := .lst (ns.map V.int).tail) ht hD2
        walk_at "rd"
        refine ⟨D, t, _, _, rfl, .inl ⟨SqL.of hD3, SqL.of upd_same, fun u hu => ?_⟩⟩
        have nut : u ≠ t := fun z => by rw [z, upd_same] at hu; cases hu
        have nuD : u ≠ D := fun z => by rw [z] at hu; rw [hD3] at hu; cases hu
        refine lc_it (walk_zip (xs := ns.map V.int) (ys := (ns.map V.int).tail) rfl) (fun j H3 => Box (Same H2 H3 ∧ H3 D = some (.lst (ns.map V.int)) ∧ H3 t = some (.lst (ns.map V.int).tail) ∧ H3 u = some (.lst (((pairs gap ns).take j).map V.int)))) ?_
          (fun j H3 _ ⟨_, _, h1, h2, _⟩ => ⟨SqL.of h1, SqL.of h2⟩) ?_ ?_
        · exact .of ⟨same_add (same_new ht) hu, updNe hu hD3, updNe hu upd_same, upd_same⟩
        · rintro j x H3 _ hj ⟨_, s3, h1, h2, h3⟩ ⟨T2, x, y, rfl, hT2, rfl, hx, hy⟩
          obtain ⟨z1, e1, rfl⟩ := mapI_get hx
          have hy : (ns.map V.int).tail[j]? = some y := hy
          rw [List.getElem?_tail] at hy
          obtain ⟨z2, e2, rfl⟩ := mapI_get hy
          refine ⟨_, _, rfl, SqT.of upd_same, rfl, ?_⟩
          walk_at "rd"
          have hu2 : H2 u = none := by rw [upd_ne nut] at hu; exact hu
          refine ⟨_, updNe hT2 h3, ?_, .of ⟨same_to (same_add s3 hT2) hu2, ?_, ?_, ?_⟩⟩
          · rw [List.length_map, List.length_take]
            exact Nat.lt_of_le_of_lt (Nat.min_le_right _ _) (by rw [pairs_len]; exact small1000 (by omega))
          · rw [upd_ne nuD.symm]; exact updNe hT2 h1
          · rw [upd_ne nut.symm]; exact updNe hT2 h2
          · rw [upd_same, take_snoc (pairs_get gap e1 e2), List.map_append]
            rfl
        · rintro H3 ⟨_, s3, h1, h2, h3⟩
          have ea : ((pairs gap ns).take (min (ns.map V.int).length (ns.map V.int).tail.length)).map V.int = (pairs gap ns).map V.int := by
            rw [List.take_of_length_le]
            rw [pairs_len, List.length_tail, List.length_map]
            omega
          rw [ea] at h3
          walk_at "rd"
          refine ⟨u, pairs gap ns, rfl, SqL.of h3, ?_⟩
          rw [pairs_sum]
          walk_at "rd"
          refine .of ⟨some (.int (0 + (i : Int))), some (.ref D), ?_, ((sm.trans s2).trans s3)⟩
          rw [sum_take_more eg]
          rfl
    · rintro σ H1 ⟨_, v2, v3, rfl, sm⟩
      walk_at "rd"
      have e : ((axs ps).take 2).sum = steps dist ps := by
        rw [steps_gap]
        show steps gap (ps.map (ax 0)) + (steps gap (ps.map (ax 1)) + 0) = _
        rw [Int.add_zero]
        rfl
      show Q (.int ((axs ps).take 2).sum) H1
      rw [e]
      exact k _ sm
end
end K36

set_option Elab.async false
set_option linter.all false
set_option maxRecDepth 100000
set_option maxHeartbeats 2000000
namespace K36
open PySem L2 Lay RZ SkE
/-! ### reading steps -/
local macro_rules | `(tactic| walk_at "side") => `(tactic| first | rfl | decide | exact ⟨by decide, by decide, by decide⟩ | (unfold CMulW; decide +kernel) | assumption | omega | exact Nat.le_of_ble_eq_true rfl | (show (0 : Int) < _; first | assumption | decide | omega) | exact Or.inl ⟨by omega, by omega⟩ | exact Or.inr ⟨by omega, by omega⟩ | exact ⟨by omega, by decide⟩ | exact Or.inr ⟨by (split <;> omega), by (split <;> omega)⟩)
local macro_rules | `(tactic| walk_at "at") => `(tactic| first | rfl | assumption)
local macro_rules | `(tactic| walk_at "rd1") => `(tactic| first
  | (refine ⟨_, rfl, ?_⟩)
  | (refine ⟨_, _, rfl, rfl, ?_⟩)
  | (refine ⟨_, _, _, _, rfl, rfl, SqL.of (by assumption), (by walk_at "at"), ?_⟩)
  | (refine ⟨_, _, _, _, rfl, rfl, SqT.of (by assumption), (by walk_at "at"), ?_⟩)
  | (refine ⟨_, _, _, _, rfl, rfl, (by assumption), (by walk_at "at"), ?_⟩)
  | (refine ⟨_, _, rfl, SqT.of upd_same, rfl, ?_⟩)
  | (refine ⟨_, _, rfl, Or.inl (by first | assumption | exact SqL.of (by assumption)), ?_⟩)
  | (refine ⟨_, _, rfl, Or.inr (by first | assumption | exact SqT.of (by assumption)), ?_⟩)
  | (refine ⟨_, _, rfl, ?_⟩)
  | (refine Or.inl ⟨_, rfl, ?_⟩)
  | (refine Or.inr ⟨_, rfl, ?_⟩)
  | (refine And.intro (by walk_at "side") ?_))
local macro_rules | `(tactic| walk_at "rd") => `(tactic| repeat walk_at "rd1")

/-! ### the law -/
theorem use_begin {K : PySem.W.Frag} {H : Hp} {Q : VK} {E : XK} {a : Addr} {ns : List Int} {j : Int} (k : Nat) (hj : j = (k : Int)) (hS : SqL K H a (ns.map V.int)) (hk : k ≤ 100)
    (kk : ∀ (H' : Hp) (p : Addr), Same H H' → H p = none → PotAt H' p 0 → Q (.ref p) H') : spBegin K ([.ref a, .int j] ++ []) H Q E := by
  subst hj
  unfold spBegin
  exact ⟨a, ns, k, rfl, hS, hk, kk⟩
theorem use_places {H : Hp} {Q : VK} {E : XK} {a : Addr} (hP : PotAt H a 0)
    (kk : ∀ (H' : Hp) (p : Addr) (ps : List (Int × Int)), But [a] H H' → WayAt H' p ps → 0 < ps.length → ps.length ≤ 40 → Near (10 ^ 40) ps → Q (.ref p) H') : spPlaces ([.ref a] ++ []) H Q E := by
  unfold spPlaces
  exact ⟨a, rfl, hP, kk⟩
theorem use_len {H : Hp} {Q : VK} {E : XK} {p : Addr} {ws : List V} {ps : List (Int × Int)} (hp : H p = some (.tup ws)) (hP : Pts H ws ps) (h0 : 0 < ps.length) (h1 : ps.length ≤ 1000)
    (k : ∀ H' : Hp, Same H H' → Q (.int (steps dist ps)) H') : spLen ([.ref p] ++ []) H Q E := by
  unfold spLen
  exact ⟨p, ws, ps, rfl, hp, hP, h0, h1, k⟩
theorem use_len1 {H : Hp} {Q : VK} {E : XK} {p : Addr} {ws : List V} {ps : List (Int × Int)} (hp : H p = some (.tup ws)) (hP : Pts H ws ps) (h0 : 0 < ps.length) (h1 : ps.length ≤ 1000)
    (k : ∀ H' : Hp, Same H H' → Q (.int (steps dist ps)) H') : spLen [.ref p] H Q E := by
  unfold spLen
  exact ⟨p, ws, ps, rfl, hp, hP, h0, h1, k⟩
theorem use_due {H : Hp} {Q : VK} {E : XK} {p : Addr} {ws : List V} {ps : List (Int × Int)} (hp : H p = some (.tup ws)) (hP : Pts H ws ps) (h1 : ps.length ≤ 1000)
    (k : ∀ H' : Hp, Same H H' → Q (.int (steps dist ps)) H') : spDue ([.ref p] ++ []) H Q E := by
  unfold spDue
  exact ⟨p, ws, ps, rfl, hp, hP, h1, k⟩
@[irreducible] def spLaw (K : PySem.W.Frag) : Sp := fun vs H Q _ => ∃ (a : Addr) (ns : List Int), vs = [.ref a] ∧ SqL K H a (ns.map V.int) ∧ ns.length ≤ 63 ∧ ∀ H', Q (.bl true) H'
theorem shown_way {ps : List (Int × Int)} (hn : ps.length ≤ 40) (hb : Near (10 ^ 40) ps) : PyData.showable (.tuple (ps.map pd)) = true ∧ (PyData.tuple (ps.map pd)).shown.length ≤ sizeLine := by
  have small : ∀ q ∈ ps, q.1.natAbs.log2 < 1920 ∧ q.2.natAbs.log2 < 1920 := by
    intro q hq
    have h := hb q hq
    exact ⟨log_small (k := 200) (by omega) (by decide) (by decide), log_small (k := 200) (by omega) (by decide) (by decide)⟩
  have all : ∀ l : List (Int × Int), (∀ q ∈ l, q.1.natAbs.log2 < 1920 ∧ q.2.natAbs.log2 < 1920) → PyData.showableAll (l.map pd) = true ∧ PyData.leavesShortAll 2000 (l.map pd) = true ∧ PyData.bulkAll (l.map pd) ≤ 3 * l.length := by
    intro l
    induction l with
    | nil => intro _; exact ⟨rfl, rfl, Nat.le_refl _⟩
    | cons q r ih =>
      intro h
      obtain ⟨i1, i2, i3⟩ := ih fun x hx => h x (List.mem_cons_of_mem _ hx)
      obtain ⟨s1, s2⟩ := h q List.mem_cons_self
      have t1 := int_short s1
      have t2 := int_short s2
      refine ⟨?_, ?_, ?_⟩
      · simp [PyData.showableAll, PyData.showable, pd, i1, s1, s2]
      · simp only [List.map_cons, PyData.leavesShortAll, pd, PyData.leavesShort] at t1 t2 i2 ⊢
        simp [t1, t2, i2]
      · simp only [List.map_cons, PyData.bulkAll, pd, PyData.bulk, List.length_cons]
        omega
  obtain ⟨a1, a2, a3⟩ := all ps small
  refine ⟨by simpa only [PyData.showable] using a1, shown_small (by simpa only [PyData.leavesShort] using a2) ?_⟩
  simp only [PyData.bulk]
  omega
theorem kb_length_0_places {K : PySem.W.Frag} (f : Addr) (fd : FuncData) (F : Fun K "length" "length" s_length f fd) : KwB K fd length.ps 0 ["places"] (fun us ws => ws) (fun vs zs => zs) := by
  obtain ⟨oc, od, kV, doc, pm, an, cdv, ct, osl, rfl, lk, hcd⟩ := F.ex
  exact ⟨fun s us ws _ h1 h2 => match us, ws, h1, h2 with | [], [w], _, _ => .of_eq rfl, fun vs zs us ws _ _ _ rz => rz⟩
section
variable {P : Program} {w : World} {K : PySem.W.Frag} {mg : Str → Option Value} {base : Heap} {f : Addr} {fd : FuncData}
abbrev s_law : Stmt := (top 7)
abbrev law.N : List Str := ["_law_script", "_law_k", "_law_way", "_law_kept"]
abbrev law.ps : List Str := ["_law_script"]
theorem sc_law : FnScope law.N law.ps (defScope s_law) := ⟨rfl, rfl, rfl, by decide +kernel, rfl, by decide +kernel, by decide +kernel⟩
theorem ok_law (F : Fun K "law" "law" s_law f fd) (T : T36 mg) (C_begin : Callee P w K mg base CX0 1 "_law_begin" s_begin begin.ps (spBegin K)) (C_places : Callee P w K mg base CX0 2 "_law_places" s_places places.ps spPlaces)
    (C_length : Callee P w K mg base CX0 1 "length" s_length length.ps spLen) (C_due : Callee P w K mg base CX0 1 "_law_due" s_due due.ps spDue) : FnG P w K mg base CX0 3 f fd law.ps (spLaw K) := by
  refine gbody F sc_law (fun vs H Q E h => ?_) (fun cdv A outer s H vs Q E hr hg h => ?_)
  · unfold spLaw at h
    obtain ⟨a, ns, rfl, _⟩ := h
    rfl
  · unfold spLaw at h
    obtain ⟨a, ns, rfl, hS, hn, kk⟩ := h
    refine ⟨_, (pss_cons (ps_for PassesOwn.never rfl (pi_range1 rfl T.b_range (pa_cons (pe_callB (call_max2 rfl) (by rfl) T.b_max (by decide +kernel) (pa_cons pe_int (pa_cons (pe_callB (call_min2 rfl) (by rfl) T.b_min (by decide +kernel) (pa_cons pe_int (pa_cons (pe_callB call_len_seq (by rfl) T.b_len PySem.boot_len (pa_cons (pv 0) pa_nil)) pa_nil))) pa_nil))) pa_nil)) (pg_name (i := 1) sc_law.nd rfl (Or.inl rfl)) (pss_cons (ps_set (i := 2) sc_law.nd rfl (Or.inl rfl) (C_places.call rfl hr hg (pa_cons (C_begin.call rfl hr hg (pa_cons (pv 0) (pa_cons (pv 1) pa_nil))) pa_nil)))
      (pss_cons (ps_set (i := 3) sc_law.nd rfl (Or.inl rfl) (pe_callB (call_repr_data hg (room150 hr)) (by rfl) T.b_repr (by decide +kernel) (pa_cons (pv 2) pa_nil)))
      (pss_cons (ps_if (PW.pt (pw_or (pt_cmpR op_ne (pe_callB call_repr_int (by rfl) T.b_repr (by decide +kernel) (pa_cons (C_length.call rfl hr hg (pa_cons (pv 2) pa_nil)) pa_nil)) (pe_callB call_repr_int (by rfl) T.b_repr (by decide +kernel) (pa_cons (C_due.call rfl hr hg (pa_cons (pv 2) pa_nil)) pa_nil)) (nomark _)) (pw_or (pt_cmpR op_ne (C_length.kw0 kb_length_0_places rfl hr hg (pk_cons (pv 2) pk_nil)) (C_due.call rfl hr hg (pa_cons (pv 2) pa_nil)) (nomark _)) (pw_or1 (pt_cmpR op_ne (pe_callB (call_repr_data hg (room150 hr)) (by rfl) T.b_repr (by decide +kernel) (pa_cons (pv 2) pa_nil)) (pv 3) (nomark _)))))) (pss_one (ps_ret pe_bl)) pss_nil)
      (pss_one (ps_if (PW.pt (pw_or (pt_cmpR op_ne (C_length.call rfl hr hg (pa_cons (pe_cut (pe_slice sl_tupA (pv 2) po_none (po_some pe_int))) pa_nil)) pe_int (nomark _)) (pw_or1 (pt_cmpR op_ne (C_length.call rfl hr hg (pa_cons (pe_revT (pv 2)) pa_nil)) (C_due.call rfl hr hg (pa_cons (pv 2) pa_nil)) (nomark _))))) (pss_one (ps_ret pe_bl)) pss_nil))))))
      (pss_one (ps_ret pe_bl))), ?_⟩
    walk_at "rd"
    have hm : ∃ m : Nat, (if (if ((ns.map V.int).length : Int) < 8 then ((ns.map V.int).length : Int) else 8) > 3 then (if ((ns.map V.int).length : Int) < 8 then ((ns.map V.int).length : Int) else 8) else 3).toNat = m ∧ m ≤ 8 := ⟨_, rfl, by repeat' split <;> omega⟩
    obtain ⟨m, em, hm8⟩ := hm
    refine for_range (lo := 0) (n := (if (if ((ns.map V.int).length : Int) < 8 then ((ns.map V.int).length : Int) else 8) > 3 then (if ((ns.map V.int).length : Int) < 8 then ((ns.map V.int).length : Int) else 8) else 3).toNat)
      (fun i σ H' => Box (∃ v1 v2 v3 : Option V, σ = [some (.ref a), v1, v2, v3] ∧ Same H H')) ?_ ?_ ?_
    · exact .of ⟨none, none, none, rfl, Same.refl H⟩
    · rintro i σ H1 hi ⟨_, v1, v2, v3, rfl, sm⟩
      rw [em] at hi
      have hS1 := Same.seq sm hS
      walk_at "rd"
      refine use_begin i (by omega) hS1 (by omega) (fun H2 p s2 np P2 => ?_)
      walk_at "rd"
      refine use_places P2 (fun H3 q ps b3 W3 h0 h40 nr => ?_)
      obtain ⟨ws, hw, pt⟩ := W3
      have s3 : Same H H3 := fun b o e => same_but s2 np b3 b o (sm b o e)
      obtain ⟨sh, sl⟩ := shown_way h40 nr
      have hlog : (steps dist ps).natAbs.log2 < 1920 := by
        obtain ⟨g1, g2⟩ := steps_le (10 ^ 40) (by decide) ps nr
        have g3 : 4 * (10 ^ 40 : Int) * (ps.length : Int) ≤ 4 * 10 ^ 40 * 40 := Int.mul_le_mul_of_nonneg_left (by omega) (by decide)
        exact log_small (k := 200) (by omega) (by decide) (by decide)
      walk_at "rd"
      refine ⟨q, _, rfl, .tup (SqT.of hw) (dp_pts pt), sh, shaped_t ps, sl, ?_⟩
      walk_at "rd"
      have tk : ∀ {H' : Hp}, Same H3 H' → H' q = some (.tup ws) ∧ Pts H' ws ps := fun s => ⟨s _ _ hw, pt.keep fun b xs e => s _ _ e⟩
      refine use_len hw pt h0 (by omega) (fun H4 s4 => ?_)
      walk_at "rd"
      obtain ⟨hw4, pt4⟩ := tk s4
      refine use_due hw4 pt4 (by omega) (fun H5 s5 => ?_)
      walk_at "rd"
      refine iteNF rfl ?_
      obtain ⟨hw5, pt5⟩ := tk (s4.trans s5)
      walk_at "rd"
      refine use_len1 hw5 pt5 h0 (by omega) (fun H6 s6 => ?_)
      walk_at "rd"
      obtain ⟨hw6, pt6⟩ := tk ((s4.trans s5).trans s6)
      refine use_due hw6 pt6 (by omega) (fun H7 s7 => ?_)
      walk_at "rd"
      refine iteNF rfl ?_
      have s37 := ((s4.trans s5).trans s6).trans s7
      obtain ⟨hw7, pt7⟩ := tk s37
      walk_at "rd"
      refine ⟨q, _, rfl, .tup (SqT.of hw7) (dp_pts pt7), sh, shaped_t ps, sl, ?_⟩
      walk_at "rd"
      refine iteNF rfl ?_
      walk_at "rd"
      refine ⟨fun v H' => ∃ (b : Addr) (ws' : List V), v = .ref b ∧ Same H7 H' ∧ H' b = some (.tup ws') ∧ Pts H' ws' (ps.take 1), ?_, ?_⟩
      · walk_at "rd"
        refine ⟨q, ws, rfl, SqT.of hw7, fun hwh => ?_, fun _ t ht => ?_⟩
        · have e1 : ps.take 1 = ps := by
            have h2 := hwh.2
            rw [show (1 : Int) = ((1 : Nat) : Int) from rfl, HT.sIx_nat, pt7.1] at h2
            exact List.take_of_length_le (by omega)
          exact ⟨q, ws, rfl, Same.refl _, hw7, by rw [e1]; exact pt7⟩
        · rw [show (1 : Int) = ((1 : Nat) : Int) from rfl, cut_take]
          exact ⟨t, _, rfl, same_new ht, upd_same, (pt7.keep fun b xs e => updNe ht e).take 1⟩
      · rintro v H8 ⟨b, ws', rfl, s8, hb, ptb⟩
        walk_at "rd"
        refine use_len hb ptb (by rw [List.length_take]; omega) (by rw [List.length_take]; omega) (fun H9 s9 => ?_)
        have z1 : steps dist (ps.take 1) = 0 := by
          cases ps with
          | nil => rfl
          | cons x r => rfl
        rw [z1]
        walk_at "rd"
        obtain ⟨hw9, pt9⟩ := tk ((s37.trans s8).trans s9)
        refine ⟨q, ws, rfl, SqT.of hw9, fun t ht => ?_⟩
        walk_at "rd"
        refine use_len (upd_same) ((pt9.keep fun b xs e => updNe ht e).rev) (by rw [List.length_reverse]; exact h0) (by rw [List.length_reverse]; omega) (fun H10 s10 => ?_)
        rw [steps_rev dist dist_comm]
        walk_at "rd"
        obtain ⟨hw10, pt10⟩ := tk ((((s37.trans s8).trans s9).trans (same_new ht)).trans s10)
        refine use_due hw10 pt10 (by omega) (fun H11 s11 => ?_)
        walk_at "rd"
        refine iteNF rfl ?_
        refine .of ⟨_, _, _, rfl, ((((s3.trans s37).trans s8).trans s9).trans (same_new ht)).trans (s10.trans s11)⟩
    · rintro σ H1 ⟨_, v1, v2, v3, rfl, sm⟩
      walk_at "rd"
      exact kk _
end
theorem law_asks {K : PySem.W.Frag} {H : Hp} {a : Addr} {ns : List Int} (hl : ns.length ≤ 63) (hS : SqL K H a (ns.map V.int)) : spLaw K [.ref a] H (fun v _ => v = .bl true) fun _ _ _ => False := by
  unfold spLaw
  exact ⟨a, ns, rfl, hS, hl, fun _ => rfl⟩
end K36

set_option Elab.async false
set_option linter.all false
set_option maxRecDepth 100000
set_option maxHeartbeats 2000000
namespace K36
open PySem L2 Lay RZ SkE
theorem bd_take {K : PySem.W.Frag} {f : Addr} {fd : FuncData} (F : Fun K "_law_take" "_law_take" s_take f fd) : Binds K fd take.ps [] :=
  F.binds fun _ _ _ _ _ _ us hl => match us, hl with | [_, _], _ => rfl
theorem bd_begin {K : PySem.W.Frag} {f : Addr} {fd : FuncData} (F : Fun K "_law_begin" "_law_begin" s_begin f fd) : Binds K fd begin.ps [] :=
  F.binds fun _ _ _ _ _ _ us hl => match us, hl with | [_, _], _ => rfl
theorem bd_places {K : PySem.W.Frag} {f : Addr} {fd : FuncData} (F : Fun K "_law_places" "_law_places" s_places f fd) : Binds K fd places.ps [] :=
  F.binds fun _ _ _ _ _ _ us hl => match us, hl with | [_], _ => rfl
theorem bd_length {K : PySem.W.Frag} {f : Addr} {fd : FuncData} (F : Fun K "length" "length" s_length f fd) : Binds K fd length.ps [] :=
  F.binds fun _ _ _ _ _ _ us hl => match us, hl with | [_], _ => rfl
theorem bd_due {K : PySem.W.Frag} {f : Addr} {fd : FuncData} (F : Fun K "_law_due" "_law_due" s_due f fd) : Binds K fd due.ps [] :=
  F.binds fun _ _ _ _ _ _ us hl => match us, hl with | [_], _ => rfl
theorem all_mk {l : PySem.W.OpenLaw} {w : World} {K : PySem.W.Frag} {h : Heap} {mg : Str → Option Value} {fa : Addr} (X : K.In h) (G : h.Ns mainGlobals mg) (hfa : mg "law" = some (.ref fa))
    {f_take : Addr} {oc_take kV_take dc_take pm_take cd_take ct_take : Value} {od_take an_take : Option Addr} {sl_take : Array (Option Value)}
    {f_begin : Addr} {oc_begin kV_begin dc_begin pm_begin cd_begin ct_begin : Value} {od_begin an_begin : Option Addr} {sl_begin : Array (Option Value)}
    {f_places : Addr} {oc_places kV_places dc_places pm_places cd_places ct_places : Value} {od_places an_places : Option Addr} {sl_places : Array (Option Value)}
    {f_length : Addr} {oc_length kV_length dc_length pm_length cd_length ct_length : Value} {od_length an_length : Option Addr} {sl_length : Array (Option Value)}
    {f_due : Addr} {oc_due kV_due dc_due pm_due cd_due ct_due : Value} {od_due an_due : Option Addr} {sl_due : Array (Option Value)}
    {f_law : Addr} {oc_law kV_law dc_law pm_law cd_law ct_law : Value} {od_law an_law : Option Addr} {sl_law : Array (Option Value)}
    (a_take : PySem.W.nsIn K mainGlobals "_law_take" = some (some (.ref f_take)))
    (l_take : K.lookup f_take = some ⟨oc_take, od_take, .func (PySem.W.fnOf "_law_take" "_law_take" (defArgs s_take) (defBody s_take) (defScope s_take) .none kV_take dc_take pm_take an_take cd_take ct_take), sl_take⟩)
    (c_take : PySem.W.codeIn K cd_take "_law_take" = true)
    (k_take : PySem.W.keepIn K (.ref f_take) = true)
    (a_begin : PySem.W.nsIn K mainGlobals "_law_begin" = some (some (.ref f_begin)))
    (l_begin : K.lookup f_begin = some ⟨oc_begin, od_begin, .func (PySem.W.fnOf "_law_begin" "_law_begin" (defArgs s_begin) (defBody s_begin) (defScope s_begin) .none kV_begin dc_begin pm_begin an_begin cd_begin ct_begin), sl_begin⟩)
    (c_begin : PySem.W.codeIn K cd_begin "_law_begin" = true)
    (k_begin : PySem.W.keepIn K (.ref f_begin) = true)
    (a_places : PySem.W.nsIn K mainGlobals "_law_places" = some (some (.ref f_places)))
    (l_places : K.lookup f_places = some ⟨oc_places, od_places, .func (PySem.W.fnOf "_law_places" "_law_places" (defArgs s_places) (defBody s_places) (defScope s_places) .none kV_places dc_places pm_places an_places cd_places ct_places), sl_places⟩)
    (c_places : PySem.W.codeIn K cd_places "_law_places" = true)
    (k_places : PySem.W.keepIn K (.ref f_places) = true)
    (a_length : PySem.W.nsIn K mainGlobals "length" = some (some (.ref f_length)))
    (l_length : K.lookup f_length = some ⟨oc_length, od_length, .func (PySem.W.fnOf "length" "length" (defArgs s_length) (defBody s_length) (defScope s_length) .none kV_length dc_length pm_length an_length cd_length ct_length), sl_length⟩)
    (c_length : PySem.W.codeIn K cd_length "length" = true)
    (k_length : PySem.W.keepIn K (.ref f_length) = true)
    (a_due : PySem.W.nsIn K mainGlobals "_law_due" = some (some (.ref f_due)))
    (l_due : K.lookup f_due = some ⟨oc_due, od_due, .func (PySem.W.fnOf "_law_due" "_law_due" (defArgs s_due) (defBody s_due) (defScope s_due) .none kV_due dc_due pm_due an_due cd_due ct_due), sl_due⟩)
    (c_due : PySem.W.codeIn K cd_due "_law_due" = true)
    (k_due : PySem.W.keepIn K (.ref f_due) = true)
    (a_law : PySem.W.nsIn K mainGlobals "law" = some (some (.ref f_law)))
    (l_law : K.lookup f_law = some ⟨oc_law, od_law, .func (PySem.W.fnOf "law" "law" (defArgs s_law) (defBody s_law) (defScope s_law) .none kV_law dc_law pm_law an_law cd_law ct_law), sl_law⟩)
    (c_law : PySem.W.codeIn K cd_law "law" = true)
    (k_law : PySem.W.keepIn K (.ref f_law) = true)
    (z_len : PySem.W.nsIn K mainGlobals "len" = some none)
    (z_abs : PySem.W.nsIn K mainGlobals "abs" = some none)
    (z_zip : PySem.W.nsIn K mainGlobals "zip" = some none)
    (z_range : PySem.W.nsIn K mainGlobals "range" = some none)
    (z_int : PySem.W.nsIn K mainGlobals "int" = some none)
    (z_max : PySem.W.nsIn K mainGlobals "max" = some none)
    (z_min : PySem.W.nsIn K mainGlobals "min" = some none)
    (z_sum : PySem.W.nsIn K mainGlobals "sum" = some none)
    (z_tuple : PySem.W.nsIn K mainGlobals "tuple" = some none)
    (z_repr : PySem.W.nsIn K mainGlobals "repr" = some none)
    : ∃ fd : FuncData, (∀ (s : Shared) (v : Value), BindsTo s fd ⟨[v], []⟩ [("_law_script", v)]) ∧ ∀ base : Heap, K.In base → base.Ns mainGlobals mg → FnG l.prog w K mg base CX0 3 fa fd ["_law_script"] (spLaw K) := by
  have e := hfa.symm.trans (PySem.W.mg_of X G a_law)
  cases e
  have T : T36 mg := ⟨PySem.W.mg_none_of X G z_len, PySem.W.mg_none_of X G z_abs, PySem.W.mg_none_of X G z_zip, PySem.W.mg_none_of X G z_range, PySem.W.mg_none_of X G z_int, PySem.W.mg_none_of X G z_max, PySem.W.mg_none_of X G z_min, PySem.W.mg_none_of X G z_sum, PySem.W.mg_none_of X G z_tuple, PySem.W.mg_none_of X G z_repr⟩
  have F_take := fun_mk (st := s_take) l_take c_take k_take
  have F_begin := fun_mk (st := s_begin) l_begin c_begin k_begin
  have F_places := fun_mk (st := s_places) l_places c_places k_places
  have F_length := fun_mk (st := s_length) l_length c_length k_length
  have F_due := fun_mk (st := s_due) l_due c_due k_due
  have F_law := fun_mk (st := s_law) l_law c_law k_law
  refine ⟨PySem.W.fnOf "law" "law" (defArgs s_law) (defBody s_law) (defScope s_law) .none kV_law dc_law pm_law an_law cd_law ct_law, fun s v => .of_eq rfl, fun base hb hn => ?_⟩
  have C_take : Callee l.prog w K mg base CX0 1 "_law_take" s_take take.ps (spTake) := ⟨_, _, PySem.W.mg_of X G a_take, F_take, bd_take F_take, ok_take F_take⟩
  have C_begin : Callee l.prog w K mg base CX0 1 "_law_begin" s_begin begin.ps (spBegin K) := ⟨_, _, PySem.W.mg_of X G a_begin, F_begin, bd_begin F_begin, ok_begin F_begin T⟩
  have C_places : Callee l.prog w K mg base CX0 2 "_law_places" s_places places.ps (spPlaces) := ⟨_, _, PySem.W.mg_of X G a_places, F_places, bd_places F_places, ok_places F_places T C_take⟩
  have C_length : Callee l.prog w K mg base CX0 1 "length" s_length length.ps (spLen) := ⟨_, _, PySem.W.mg_of X G a_length, F_length, bd_length F_length, ok_length F_length T⟩
  have C_due : Callee l.prog w K mg base CX0 1 "_law_due" s_due due.ps (spDue) := ⟨_, _, PySem.W.mg_of X G a_due, F_due, bd_due F_due, ok_due F_due T⟩
  exact ok_law F_law T C_begin C_places C_length C_due
end K36
open PySem PySem.W PyProof.Rows in
set_option maxRecDepth 100000 in
set_option maxHeartbeats 0 in
theorem PySem.Challenge.cw_gridplaces_k36_lengths_of_ways_holds : PySem.Challenge.rw_gridplaces_k36_lengths_of_ways.Holds := by
  w_on; o_law; k_head; (case hw => w_witness2)
  k_fill
  refine Lay.walk_law (l := PySem.Challenge.rw_gridplaces_k36_lengths_of_ways) (n := 63) (k := 3) (x := "_law_script") (sp := fun K => K36.spLaw K) rfl (by decide) rfl ⟨rfl, by decide, by decide⟩ (fun w h Y => PySem.W.kIn_of Y) ?F ?S
  case F =>
    intro w mg fa h KX G hmg
    refine' K36.all_mk KX G hmg ?a_take ?l_take ?c_take ?k_take ?a_begin ?l_begin ?c_begin ?k_begin ?a_places ?l_places ?c_places ?k_places ?a_length ?l_length ?c_length ?k_length ?a_due ?l_due ?c_due ?k_due ?a_law ?l_law ?c_law ?k_law ?z_len ?z_abs ?z_zip ?z_range ?z_int ?z_max ?z_min ?z_sum ?z_tuple ?z_repr
    (case a_take => k_is)
    (case l_take => k_is)
    (case c_take => k_is)
    (case k_take => k_is)
    (case a_begin => k_is)
    (case l_begin => k_is)
    (case c_begin => k_is)
    (case k_begin => k_is)
    (case a_places => k_is)
    (case l_places => k_is)
    (case c_places => k_is)
    (case k_places => k_is)
    (case a_length => k_is)
    (case l_length => k_is)
    (case c_length => k_is)
    (case k_length => k_is)
    (case a_due => k_is)
    (case l_due => k_is)
    (case c_due => k_is)
    (case k_due => k_is)
    (case a_law => k_is)
    (case l_law => k_is)
    (case c_law => k_is)
    (case k_law => k_is)
    (case z_len => k_is)
    (case z_abs => k_is)
    (case z_zip => k_is)
    (case z_range => k_is)
    (case z_int => k_is)
    (case z_max => k_is)
    (case z_min => k_is)
    (case z_sum => k_is)
    (case z_tuple => k_is)
    (case z_repr => k_is)
  case S =>
    intro K H a ns hl _ hS
    exact K36.law_asks hl hS
#print axioms PySem.Challenge.cw_gridplaces_k36_lengths_of_ways_holds
