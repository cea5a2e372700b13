import PyProof.Rows.All
import Wide.All
import OpenK.AllK
import Wide.FinOn
import HandS.ForMost
import HandS.IsInst
import HandS.Walk
import HandS.Style
import HandS.Wide
import HandS.StrMore
import HandS.TryOnly
import HandS.TryMany
import HandS.More
import HandS.Star
import HandS.Deep
import HandS.TupMul
import HandS.DictComp
import HandS.WordsDict
import PyProof.Rows.SetFrom
import HandS.ExcOwn
import KE.KExcSuper
import HandS.Zip
import KE.GoesEnum
import HandS.TupLen
import HandS.TupAny
import HandS.DictTup
import KE.KDictPairs
import KE.SortData
import HandS.Conv
import PySem.Challenge.RW_wireshell_k55_plans_for_changes
set_option Elab.async false
set_option maxRecDepth 100000
set_option maxHeartbeats 4000000
set_option linter.all false
/-! ## The prelude: promises of defs under which no repr is under way, combined rules (one a construct, whatever the kinds), readings step by step -/
namespace Mine
open PySem PySem.Spec PyProof.Rows L2
set_option linter.all false
abbrev St := L2.St

/-! ### names of the top -/
/-- a constant of the top -/
def GK (mg : Str → Option Value) (x : Str) (v : V) : Prop := ∃ u, mg x = some u ∧ RelV v u
theorem pe_gk {X : Cx} {x : Str} {v : V} {pos : Pos} (hg : Gl X x) (h : GK X.mg x v) (hd : (x == ("__debug__" : Str)) = false := by decide) : PE X (.Name x pos) (tC v) := by
  obtain ⟨u, hm, r⟩ := h
  exact pe_glob hg hm r hd

/-! ### a def's promise where no repr is under way -/
/-- room for k calls, no repr under way -/
structure Rm (k : Nat) (A : Around) : Prop where
  r : Room k A
  g : A.guards = some []
theorem Rm.mono {j k : Nat} {A : Around} (h : Rm k A) (l : j ≤ k) : Rm j A := ⟨h.r.mono l, h.g⟩
theorem Rm.down {k : Nat} {A : Around} (h : Rm (k + 1) A) (env : Env) : Rm k (A.deeper env) := ⟨h.r.deeper env, h.g⟩
theorem Rm.hu {k : Nat} {A : Around} (h : Rm k A) : A.units + 1 < cLine := hu_of h.r
theorem Rm.u65 {k : Nat} {A : Around} (h : Rm k A) : A.units + 65 < cLine := by
  have := h.r.un
  omega
/-- the promise itself -/
def Keeps (P : Program) (w : World) (K : PySem.W.Frag) (mg : Str → Option Value) (base : Heap) (CX : CXT) (k : Nat) (f : Addr) (fd : FuncData) (ps : List Str) (sp : Sp) : Prop :=
  (∀ vs H Q E, sp vs H Q E → vs.length = ps.length) ∧
  ∀ (A : Around) (outer : List Env) (s : Shared) (H : Hp) (args : Args) (us : List Value) (vs : List V) (Q : VK) (E : XK),
    Rm k A → Env0 P w K mg base A outer s H → BindsTo s fd args (ps.zip us) → Vals vs us → sp vs H Q E →
      codeAny (model P w) A (.call (.ref f) args) (CR CX outer P w H s Q E) s
/-- a def of the text keeps it, if its body's reading holds at each entry -/
theorem keeps_of {CX : CXT} {P : Program} {w : World} {K : PySem.W.Frag} {mg : Str → Option Value} {base : Heap} {k : Nat} {x qual : Str} {st : Stmt} {f : Addr} {fd : FuncData} {N ps : List Str} {sp : Sp}
    (F : Fun K x qual st f fd) (S : FnScope N ps (defScope st)) (len : ∀ vs H Q E, sp vs H Q E → vs.length = ps.length)
    (body : ∀ (cdv : Value) (A : Around) (outer : List Env) (s : Shared) (H : Hp) (vs : List V) (Q : VK) (E : XK), Rm k (A.deeper (envOfC qual (defScope st) s.heap.objs.size f cdv)) → sp vs H Q E →
      ∃ t, PSs (cxOf CX P w K mg base N qual (defScope st) f cdv A outer s H E) (defBody st) t ∧ t { nx := fun _ H' => Q .non H', rt := Q } (start N vs) H) :
    Keeps P w K mg base CX (k + 1) f fd ps sp := by
  obtain ⟨_, _, kV, doc, pm, an, cdv, ct, _, rfl, lk, hcd⟩ := F.ex
  refine And.intro len ?_
  intro A outer s H args us vs Q E hr e0 hb rv hsp
  have kp : ∀ b o, base.get? b = some o → s.heap.get? b = some o := fun b o e => (e0.bs b o e).1
  have inK : K.In s.heap := PySem.W.Frag.In.keeps e0.mod.kin kp
  have kinds : ∀ q ∈ ps.zip us, (defScope st).names.lookup q.1 = some .local ∨
      ((defScope st).names.lookup q.1 = some .cell ∧ ((cellsFrom (s.heap.objs.size + 1) (defScope st).names []).lookup q.1).isSome = true) := by
    intro q hq
    have hmem := (List.of_mem_zip (show (q.1, q.2) ∈ ps.zip us from hq)).1
    cases S.par q.1 hmem with
    | inl h => exact Or.inl h
    | inr h => exact Or.inr ⟨h, PySem.W.cellsFrom_some _ _ _ (Or.inl h)⟩
  refine codeAny_call_function hr.r.depth (inK _ _ lk) rfl S.co S.gen rfl (PySem.W.codeRec_of inK hcd) ?_
  refine hb _ _ _ _ ?_
  refine wpAny_newFunctionEnv_cells S.kind kinds ?_
  rintro env rfl s1 x1
  refine And.intro (Heap.NoLimit.keeps e0.mod.nolimit fun b o e => x1.toInCall.keep b o (kp b o e)) ?_
  refine codeAny_func ?_
  obtain ⟨t, pt, red⟩ := body cdv A outer s H vs Q E (hr.down _) hsp
  have I0 := inv_start (CX := CX) (E := E) (K := K) (mg := mg) S hr.r.hd e0 (len vs H Q E hsp) rv x1
  refine wpAny_mono (pt.run [] s1 _ H _ I0 red) ?_ (fun _ _ h => h)
  intro fl s2 hfl
  cases fl with
  | ret u =>
    obtain ⟨v, σ2, H2, J, r2, q2⟩ := hfl
    exact ⟨v, H2, J.os, J.bare, J.base, J.hok, r2, q2⟩
  | next =>
    obtain ⟨σ2, H2, J, q2⟩ := hfl
    exact ⟨V.non, H2, J.os, J.bare, J.base, J.hok, rfl, q2⟩
  | brk =>
    obtain ⟨σ2, H2, J, q2⟩ := hfl
    exact False.elim q2
  | cont =>
    obtain ⟨σ2, H2, J, q2⟩ := hfl
    exact False.elim q2

/-- where nothing that is raised leaves it -/
theorem keeps0_of {P : Program} {w : World} {K : PySem.W.Frag} {mg : Str → Option Value} {base : Heap} {k : Nat} {x qual : Str} {st : Stmt} {f : Addr} {fd : FuncData} {N ps : List Str} {sp : Sp}
    (F : Fun K x qual st f fd) (S : FnScope N ps (defScope st)) (len : ∀ vs H Q E, sp vs H Q E → vs.length = ps.length)
    (body : ∀ (cdv : Value) (A : Around) (outer : List Env) (s : Shared) (H : Hp) (vs : List V) (Q : VK) (E : XK), Rm k (A.deeper (envOfC qual (defScope st) s.heap.objs.size f cdv)) → sp vs H Q E →
      ∃ t, PSs (cxOf CX0 P w K mg base N qual (defScope st) f cdv A outer s H E).nox (defBody st) t ∧ t { nx := fun _ H' => Q .non H', rt := Q } (start N vs) H) :
    Keeps P w K mg base CX0 (k + 1) f fd ps sp := by
  refine keeps_of F S len ?_
  intro cdv A outer s H vs Q E hr hsp
  obtain ⟨t, h1, h2⟩ := body cdv A outer s H vs Q E hr hsp
  exact ⟨t, h1.nox, h2⟩

/-! ### defs of the top, by name -/
/-- a def of the top -/
def DefAt (K : PySem.W.Frag) (mg : Str → Option Value) (x : Str) (ps : List Str) (st : Stmt) : Prop :=
  ∃ (f : Addr) (fd : FuncData), Fun K x x st f fd ∧ mg x = some (.ref f) ∧ Binds K fd ps [] ∧ ∀ (s : Shared) (us : List Value), us.length = ps.length → BindsTo s fd ⟨us, []⟩ (ps.zip us)
theorem DefAt.mk {K : PySem.W.Frag} {mg : Str → Option Value} {x : Str} {ps : List Str} {st : Stmt} {f : Addr} {oc : Value} {od an : Option Addr} {osl : Array (Option Value)} {kV doc pm cdv ct : Value}
    (l : K.lookup f = some ⟨oc, od, .func (PySem.W.fnOf x x (defArgs st) (defBody st) (defScope st) .none kV doc pm an cdv ct), osl⟩) (c : PySem.W.codeIn K cdv x = true) (k : PySem.W.keepIn K (.ref f) = true) (hm : mg x = some (.ref f))
    (b : ∀ (kV doc pm : Value) (an : Option Addr) (cdv ct : Value) (us : List Value), us.length = ps.length → bindArgs (PySem.W.fnOf x x (defArgs st) (defBody st) (defScope st) .none kV doc pm an cdv ct) ⟨us, []⟩ = pure (ps.zip us)) : DefAt K mg x ps st := by
  have F := fun_mk (st := st) l c k
  exact ⟨f, _, F, hm, F.binds b, fun s us hl => .of_eq (b _ _ _ _ _ _ us hl)⟩
/-- a def of the top that keeps a promise -/
def Cal (P : Program) (w : World) (K : PySem.W.Frag) (mg : Str → Option Value) (base : Heap) (CX : CXT) (k : Nat) (x : Str) (st : Stmt) (ps : List Str) (sp : Sp) : Prop :=
  ∃ (f : Addr) (fd : FuncData), Fun K x x st f fd ∧ mg x = some (.ref f) ∧ Binds K fd ps [] ∧ Keeps P w K mg base CX k f fd ps sp
theorem cal {P : Program} {w : World} {K : PySem.W.Frag} {mg : Str → Option Value} {base : Heap} {CX : CXT} {k : Nat} {x : Str} {st : Stmt} {ps : List Str} {sp : Sp} (D : DefAt K mg x ps st)
    (h : ∀ {f : Addr} {fd : FuncData}, Fun K x x st f fd → Keeps P w K mg base CX k f fd ps sp) : Cal P w K mg base CX k x st ps sp := by
  obtain ⟨f, fd, F, hm, B, _⟩ := D
  exact ⟨f, fd, F, hm, B, h F⟩
section
variable {X : Cx} {CX : CXT} {k : Nat} {ps : List Str} {sp : Sp} {E : XK} {x : Str} {st : Stmt} {p pos : Pos} {e : Expr} {es : List Expr} {t tk : TA} {kws : List Keyword}
/-- the callee runs, whatever way its arguments were bound -/
theorem run_keeps {pins : List (Addr × Obj)} {σ : St} {H : Hp} {s : Shared} {Q : VK} {args : List Value} {kwargs : List (Str × Value)} {us : List Value} {vs : List V} {f : Addr} {fd : FuncData} (O : Keeps X.prog X.w X.K X.mg X.base CX k f fd ps sp)
    (hr : Rm k X.A) (hx : Passes CX X E) (I : Inv X pins σ H s) (b : BindsTo s fd ⟨args, kwargs⟩ (ps.zip us)) (r : Vals vs us) (h : sp vs H Q E) :
    wpAny (model X.prog X.w) X.A (call (.ref f) args kwargs) (EP X pins σ Q) X.xe s := by
  have run := O.2 X.A X.stack s H ⟨args, kwargs⟩ us vs Q E hr I.env0 b r h
  refine wpAny_call (codeAny_mono run ?_)
  intro res s2 hres
  match res, hres with
  | .error e, hres => exact hx pins σ H s e s2 I hres
  | .ok (.ret u), hres => exact I.after hres
theorem pe_cal (C : Cal X.prog X.w X.K X.mg X.base CX k x st ps sp) (hr : Rm k X.A) (hg : Gl X x) (hx : Passes CX X E) (ha : PA X (e :: es) t)
    (hdb : (x == ("__debug__" : Str)) = false := by decide) (he : starEach (e :: es) X.env = (false, eval e X.env) :: starEach es X.env := by rfl) (hpl : (backTo pos (starEach es X.env)).any (·.1) = false := by rfl) :
    PE X (.Call (.Name x p) (e :: es) [] pos) (tCall sp [] E t) := by
  obtain ⟨f, fd, F, hm, B, O⟩ := C
  constructor
  intro pins s σ H Q I h
  refine wpAny_Call_Name_kw (ld_glob I hg hm ?_ hdb)
  refine PySem.W.callWith_K (h₀ := X.base) I.ok.mod.kin F.kp (thn (ha.run pos pins s σ H _ I h) ?_) he hpl
  rintro us s1 ⟨vs, H1, I1, r, q⟩
  refine And.intro I1.kIn ?_
  have q' : sp vs H1 Q E := by
    have q0 : sp (vs ++ []) H1 Q E := q
    rwa [List.append_nil] at q0
  have hl : (us ++ []).length = ps.length := by
    rw [List.append_nil, ← Vals.length r]
    exact O.1 _ _ _ _ q'
  have b := B s1 us I1.kIn hl
  rw [List.append_nil] at b
  exact run_keeps O hr hx I1 b r q'
theorem pe_cal0 (C : Cal X.prog X.w X.K X.mg X.base CX k x st ps sp) (hr : Rm k X.A) (hg : Gl X x) (hx : Passes CX X E)
    (hdb : (x == ("__debug__" : Str)) = false := by decide) : PE X (.Call (.Name x p) [] [] pos) (tCall sp [] E tNil) := by
  obtain ⟨f, fd, F, hm, B, O⟩ := C
  constructor
  intro pins s σ H Q I h
  have q' : sp [] H Q E := h
  refine wpAny_Call_Name_kw (ld_glob I hg hm ?_ hdb)
  have b := B s [] I.kIn (show ([] ++ [] : List Value).length = ps.length from O.1 _ _ _ _ q')
  exact PySem.W.callWith_K0 I.kIn F.kp (run_keeps (us := []) O hr hx I b .nil q')
/-- positional values, then the keywords' values by their places -/
def gK {α : Type} (pm : List Nat) (us ws : List α) : List α := us ++ pm.filterMap fun i => ws[i]?
theorem gK_rel {pm : List Nat} {vs : List V} {us : List Value} {zs : List V} {ws : List Value} (r : Vals vs us) (q : Vals zs ws) : Vals (gK pm vs zs) (gK pm us ws) := by
  unfold gK
  refine Vals.append r ?_
  induction pm with
  | nil => exact .nil
  | cons i pm ih =>
    rw [List.filterMap_cons, List.filterMap_cons]
    cases e : zs[i]? with
    | none => rw [Vals.none_of q e]; exact ih
    | some z =>
      obtain ⟨u, e1, e2⟩ := Vals.get q e
      rw [e1]
      exact .cons e2 ih
def KwOk (x : Str) (st : Stmt) (ps : List Str) (n : Nat) (ks : List Str) (pm : List Nat) : Prop :=
  ∀ (kV doc pmv : Value) (an : Option Addr) (cdv ct : Value) (us ws : List Value), us.length = n → ws.length = ks.length →
    bindArgs (PySem.W.fnOf x x (defArgs st) (defBody st) (defScope st) .none kV doc pmv an cdv ct) ⟨us, ks.zip ws⟩ = pure (ps.zip (gK pm us ws))
def tCalK (n m : Nat) (pm : List Nat) (sp : Sp) (E : XK) (t tk : TA) : TE := fun σ H Q => t σ H fun vs H1 => tk σ H1 fun zs H2 => vs.length = n ∧ zs.length = m ∧ sp (gK pm vs zs) H2 Q E
theorem kw_binds {K : PySem.W.Frag} {f : Addr} {fd : FuncData} {n : Nat} {ks : List Str} {pm : List Nat} (F : Fun K x x st f fd) (hb : KwOk x st ps n ks pm) (s : Shared) {us ws : List Value} (h1 : us.length = n) (h2 : ws.length = ks.length) :
    BindsTo s fd ⟨us, ks.zip ws⟩ (ps.zip (gK pm us ws)) := by
  obtain ⟨_, _, kV, doc, pmv, an, cdv, ct, _, rfl, _, _⟩ := F.ex
  exact .of_eq (hb kV doc pmv an cdv ct us ws h1 h2)
theorem pe_calK {n : Nat} {ks : List Str} {pm : List Nat} (C : Cal X.prog X.w X.K X.mg X.base CX k x st ps sp) (hr : Rm k X.A) (hg : Gl X x) (hb : KwOk x st ps n ks pm) (hx : Passes CX X E)
    (ha : PA X (e :: es) t) (hkw : PK X kws tk) (hall : (backToKw pos (keywordEach kws X.env)).all (·.1.isSome) = true := by rfl) (hks : (backToKw pos (keywordEach kws X.env)).filterMap (·.1) = ks := by rfl)
    (hdb : (x == ("__debug__" : Str)) = false := by decide) (he : starEach (e :: es) X.env = (false, eval e X.env) :: starEach es X.env := by rfl)
    (hpl : ((backTo pos (starEach (e :: es) X.env)).any (·.1) || (backToKw pos (keywordEach kws X.env)).any (·.1.isNone)) = false := by rfl) :
    PE X (.Call (.Name x p) (e :: es) kws pos) (tCalK n ks.length pm sp E t tk) := by
  obtain ⟨f, fd, F, hm, B, O⟩ := C
  constructor
  intro pins s σ H Q I h
  refine wpAny_Call_Name_kw (ld_glob I hg hm ?_ hdb)
  refine PySem.W.callWith_KW (h₀ := X.base) I.ok.mod.kin F.kp hall (thn (ha.run pos pins s σ H _ I h) ?_) hpl he
  rintro us s1 ⟨vs, H1, I1, r, q⟩
  refine thn (hkw.run pos pins s1 σ H1 _ I1 q) ?_
  rintro ws s2 ⟨zs, H2, I2, rz, l1, l2, q2⟩
  refine And.intro I2.kIn ?_
  rw [hks]
  exact run_keeps O hr hx I2 (kw_binds F hb s2 (by have := Vals.length r; simpa [this] using l1) (by rw [← Vals.length rz]; exact l2)) (gK_rel r rz) q2
theorem pe_calK0 {ks : List Str} {pm : List Nat} (C : Cal X.prog X.w X.K X.mg X.base CX k x st ps sp) (hr : Rm k X.A) (hg : Gl X x) (hb : KwOk x st ps 0 ks pm) (hx : Passes CX X E)
    (hkw : PK X kws tk) (hall : (backToKw pos (keywordEach kws X.env)).all (·.1.isSome) = true := by rfl) (hks : (backToKw pos (keywordEach kws X.env)).filterMap (·.1) = ks := by rfl)
    (hdb : (x == ("__debug__" : Str)) = false := by decide)
    (hpl : ((backTo pos (starEach [] X.env)).any (·.1) || (backToKw pos (keywordEach kws X.env)).any (·.1.isNone)) = false := by rfl) :
    PE X (.Call (.Name x p) [] kws pos) (tCalK 0 ks.length pm sp E tNil tk) := by
  obtain ⟨f, fd, F, hm, B, O⟩ := C
  constructor
  intro pins s σ H Q I h
  refine wpAny_Call_Name_kw (ld_glob I hg hm ?_ hdb)
  refine PySem.W.callWith_KW0 (h₀ := X.base) I.ok.mod.kin F.kp hall ?_ hpl
  have h' : tk σ H fun zs H2 => ([] : List V).length = 0 ∧ zs.length = ks.length ∧ sp (gK pm [] zs) H2 Q E := h
  refine thn (hkw.run pos pins s σ H _ I h') ?_
  rintro ws s2 ⟨zs, H2, I2, rz, l1, l2, q2⟩
  refine And.intro I2.kIn ?_
  rw [hks]
  exact run_keeps (us := gK pm [] ws) O hr hx I2 (kw_binds F hb s2 (us := []) rfl (by rw [← Vals.length rz]; exact l2)) (gK_rel .nil rz) q2
end
/-! ### ways that meet again: what follows is shown once -/
def tMeet (t u : TS) : TS := fun D σ H => ∃ M : St → Hp → Prop, t { D with nx := M } σ H ∧ ∀ σ' H', M σ' H' → u D σ' H'
theorem pss_meet {X : Cx} {st : Stmt} {rest : List Stmt} {t u : TS} (h1 : PS X st t) (h2 : PSs X rest u) : PSs X (st :: rest) (tMeet t u) := by
  constructor
  rintro pins s σ H D I ⟨M, hM, hu⟩
  have first := h1.run pins s σ H { D with nx := M } I hM
  refine wpAny_execs_cons (thn first ?_)
  intro f s1 q
  match f, q with
  | .next, ⟨σ', H', I', q⟩ => exact h2.run pins s1 σ' H' D I' (hu σ' H' q)
  | .ret v, q => exact q
  | .brk, q => exact q
  | .cont, q => exact q
/-! ### promises by the number of parameters -/
abbrev sp1 (Φ : V → Hp → VK → Prop) : Sp := fun vs H Q _ => ∃ a, vs = [a] ∧ Φ a H Q
abbrev sp2 (Φ : V → V → Hp → VK → Prop) : Sp := fun vs H Q _ => ∃ a b, vs = [a, b] ∧ Φ a b H Q
abbrev sp3 (Φ : V → V → V → Hp → VK → Prop) : Sp := fun vs H Q _ => ∃ a b c, vs = [a, b, c] ∧ Φ a b c H Q
abbrev sp4 (Φ : V → V → V → V → Hp → VK → Prop) : Sp := fun vs H Q _ => ∃ a b c d, vs = [a, b, c, d] ∧ Φ a b c d H Q
abbrev sp5 (Φ : V → V → V → V → V → Hp → VK → Prop) : Sp := fun vs H Q _ => ∃ a b c d e, vs = [a, b, c, d, e] ∧ Φ a b c d e H Q
abbrev sp6 (Φ : V → V → V → V → V → V → Hp → VK → Prop) : Sp := fun vs H Q _ => ∃ a b c d e f, vs = [a, b, c, d, e, f] ∧ Φ a b c d e f H Q

/-! ### the law's call -/
theorem law_keeps {P : Program} {w : World} {K : PySem.W.Frag} {mg mb : Str → Option Value} {k : Nat} {fa a : Addr} {fd : FuncData} {x : Str} {sp : Sp} {s₁ : Shared} {vs : List Value} {ns : List Int}
    (kin : K.In s₁.heap) (gns : s₁.heap.Ns mainGlobals mg) (bns : s₁.heap.Ns builtinsNs mb) (bb : ∀ x : Str, x ≠ "__name__" → mb x = bootBuiltins x) (nl : s₁.heap.NoLimit) (ng : s₁.gens = #[])
    (obj : s₁.heap.get? a = some { cls := .type "list", data := .seq vs.toArray }) (his : IntsAre vs ns) (short : ns.length ≤ sizeLine) (room : Room k callerA)
    (F : ∀ base : Heap, K.In base → base.Ns mainGlobals mg → Keeps P w K mg base CX0 k fa fd [x] sp) (bind : ∀ (s : Shared) (u : Value), BindsTo s fd ⟨[u], []⟩ [(x, u)])
    (hsp : ∀ H : Hp, SqL K H a (ns.map V.int) → sp [.ref a] H (fun v _ => v = .bl true) fun _ _ _ => False) :
    codeAny (model P w) callerA (.call (.ref fa) ⟨[.ref a], []⟩) (fun r s' => r = .ok (.ret (.bool true)) ∧ OldK s₁.heap s'.heap ∧ s'.os = s₁.os ∧ AllBare s'.gens) s₁ := by
  have rv := vals_ints his
  have hlen := his.length
  let o₁ : Obj := { cls := .type "list", data := .seq vs.toArray }
  let H₁ : Hp := fun b => if b = a ∧ K.lookup a = none then some (.frz o₁ (.lst (ns.map V.int))) else none
  have hit : ∀ {b u}, H₁ b = some u → (b = a ∧ K.lookup a = none) ∧ u = .frz o₁ (.lst (ns.map V.int)) := by
    intro b u e
    by_cases c : b = a ∧ K.lookup a = none
    · rw [show H₁ b = _ from if_pos c] at e
      exact ⟨c, (Option.some.inj e).symm⟩
    · rw [show H₁ b = _ from if_neg c] at e
      cases e
  have seq : SqL K H₁ a (ns.map V.int) := by
    cases lk : K.lookup a with
    | none => exact Or.inl (Or.inr ⟨o₁, if_pos ⟨rfl, lk⟩⟩)
    | some o =>
      have e := (kin a o lk).symm.trans obj
      cases Option.some.inj e
      exact Or.inr ⟨_, vs.toArray, _, lk, rfl, rfl, rfl, (by rw [List.size_toArray, hlen]; exact short), (by simpa using rv)⟩
  have hok : HOk P w H₁ s₁.heap := by
    intro b u e
    obtain ⟨⟨rfl, _⟩, rfl⟩ := hit e
    exact ⟨obj, (by rw [List.length_map]; exact short), vs, _, rv, obj⟩
  have hid : ∀ {b o}, s₁.heap.get? b = some o → H₁ b = none → (hidT s₁.heap H₁).get? b = some o := fun e n => hidT_get e n
  have free : ∀ {b o es ep}, s₁.heap.get? b = some o → o.data = .dict es ep → H₁ b = none := by
    intro b o es ep e d
    cases q : H₁ b with
    | none => rfl
    | some u =>
      obtain ⟨⟨rfl, _⟩, _⟩ := hit q
      rw [obj] at e
      cases e
      cases d
  have nsOf : ∀ {b : Addr} {m : Str → Option Value}, s₁.heap.Ns b m → (hidT s₁.heap H₁).Ns b m := by
    rintro b m ⟨o, es, ep, e, d, r⟩
    exact ⟨o, es, ep, hid e (free e d), d, r⟩
  have kb : K.In (hidT s₁.heap H₁) := by
    intro b o e
    refine hid (kin b o e) ?_
    cases q : H₁ b with
    | none => rfl
    | some u =>
      obtain ⟨⟨rfl, n⟩, _⟩ := hit q
      rw [n] at e
      cases e
  have md : Mod K mg (hidT s₁.heap H₁) := by
    obtain ⟨mc, l1, l2⟩ := nl
    exact ⟨kb, nsOf gns, ⟨mb, nsOf bns, bb⟩, ⟨mc, nsOf l1, l2⟩⟩
  have e0 : Env0 P w K mg (hidT s₁.heap H₁) callerA [] s₁ H₁ :=
    ⟨rfl, md, fun _ _ e => of_hidT e, Nat.le_of_eq (hidT_size _ _), trivial, fun b hb => absurd (show b ∈ ([] : List Addr) from hb) List.not_mem_nil, hok, .of_eq ng⟩
  have run := (F _ kb (nsOf gns)).2 callerA [] s₁ H₁ ⟨[.ref a], []⟩ [.ref a] [.ref a] _ _ ⟨room, rfl⟩ e0 (bind s₁ (.ref a)) (.cons rfl .nil) (hsp H₁ seq)
  refine codeAny_mono run ?_
  intro res s2 hres
  match res, hres with
  | .error e, hres => exact hres.elim
  | .ok (.ret u), hres =>
    obtain ⟨v, H2, os, bare, un, hok2, rr, q⟩ := hres
    cases (show v = .bl true from q)
    cases (show u = Value.bool true from rr)
    refine ⟨rfl, OldK.of_keep ?_, os, bare⟩
    intro b o e
    cases q2 : H₁ b with
    | none => exact un.keep b o e q2 (fun z => absurd (show b ∈ ([] : List Addr) from z) List.not_mem_nil) List.not_mem_nil
    | some z =>
      have z2 := (hit q2).2
      subst z2
      have e1 := (hok b _ q2).1
      have e2 := (hok2 b _ (un.frzs b _ _ q2)).1
      rw [e] at e1
      cases Option.some.inj e1
      exact e2
/-- the goal that the head leaves, from the law's promise -/
theorem walk_keeps {l : PySem.W.OpenLaw} {n k : Nat} {q : Program} {loose : List Str} {XP : (Str → Option Value) → Heap → Prop} {YP : World → Heap → Prop} {d : DefRec} {K : Params → PySem.W.Frag} {sp : World → Sp} {x : Str}
    (hn : l.most = some n) (hn2 : n ≤ sizeLine) (hdf : d.params.defaults = []) (hr : Room k callerA) (hY : ∀ (w : World) (h : Heap), YP w h → (K w.params).In h)
    (F : ∀ (w : World) (mg : Str → Option Value) (fa : Addr) (h : Heap), (K w.params).In h → h.Ns mainGlobals mg → mg d.name = some (.ref fa) →
      ∃ fd : FuncData, (∀ (s : Shared) (u : Value), BindsTo s fd ⟨[u], []⟩ [(x, u)]) ∧ ∀ base : Heap, (K w.params).In base → base.Ns mainGlobals mg → Keeps l.prog w (K w.params) mg base CX0 k fa fd [x] (sp w))
    (hsp : ∀ (w : World) (H : Hp) (a : Addr) (ns : List Int), ns.length ≤ n → SqL (K w.params) H a (ns.map V.int) → sp w [.ref a] H (fun v _ => v = .bl true) fun _ _ _ => False) :
    PySem.W.WalkO q loose XP YP l.row.toRowW d [] (fun f vs => PySem.call f vs) := by
  refine Att.attach_call hn hdf ?_
  intro w s₀ s₁ mg mb fa o pm cd doc a vs ns G Y _ _ _ hmg obj his hl ng
  obtain ⟨fd, hb, hF⟩ := F w mg fa _ (hY w _ Y) G.T.g hmg
  exact law_keeps (hY w _ Y) G.T.g G.T.b G.T.builtins G.T.nolimit ng obj his (Nat.le_trans hl hn2) hr hF hb fun H hS => hsp w H a ns hl hS
end Mine

/-! ## Operators whatever the kinds -/
namespace Mine
open PySem PySem.Spec PyProof.Rows L2
set_option linter.all false
section
variable {X : Cx}
/-- lists put together, each whichever stands -/
def rCatS (K : PySem.W.Frag) : R2 := fun x y H Q => ∃ l b xs zs, x = .ref l ∧ y = .ref b ∧ SqL K H l xs ∧ SqL K H b zs ∧ xs.length + zs.length ≤ sizeLine ∧ ∀ p, H p = none → Q (.ref p) (upd H p (.lst (xs ++ zs)))
theorem op_catS : OpR X (binaryOp .Add) (rCatS X.K) := by
  intro pins s σ H x y v u Q I rx ry h
  obtain ⟨l, b, xs, zs, rfl, rfl, h1, h2, hz, q⟩ := h
  cases rx
  cases ry
  obtain ⟨its, r, p, _⟩ := I.list h1
  obtain ⟨its2, r2, p2, _⟩ := I.list h2
  obtain ⟨⟨cls, dd, data, sl⟩, ho, hc, n, hd⟩ := p.isList
  obtain ⟨⟨cls2, dd2, data2, sl2⟩, ho2, hc2, n2, hd2⟩ := p2.isList
  simp only at hc hd hc2 hd2
  subst hc hd hc2 hd2
  have lx := r.length
  have ly := r2.length
  have hs : its.toArray.size + its2.toArray.size ≤ sizeLine := by rw [List.size_toArray, List.size_toArray]; omega
  have e : its.toArray ++ its2.toArray = (its ++ its2).toArray := by simp
  refine concat_meets ⟨_, ho, rfl⟩ ⟨_, ho2, rfl⟩ noFill_list_add seq_list_add PySem.F.slot_list_add PySem.F.entry_list_add (PySem.F.args_list_add_2 _ _) (list_addW l b its.toArray its2.toArray n n2 dd dd2 sl sl2 hs) ⟨ho, ho2, ?_⟩
  rw [e]
  exact ⟨.ref _, _, I.lnew (t' := s.toks) (r.append r2) (by rw [List.length_append]; omega), rfl, q _ I.fresh⟩
def xAdd (K : PySem.W.Frag) : R2 := fun x y H Q => match x, y with
  | .int i, .int j => Q (.int (i + j)) H
  | .str a, .str b => a.length + b.length ≤ sizeLine ∧ Q (.str (a ++ b)) H
  | .ref a, .ref b => rCatS K (.ref a) (.ref b) H Q ∨ rCatA K (.ref a) (.ref b) H Q
  | _, _ => False
theorem oAdd₀ : OpR X (binaryOp .Add) (xAdd X.K) := by
  intro pins s σ H x y v u Q I rx ry h
  cases x <;> cases y <;> first
    | exact False.elim h
    | exact op_add pins s σ H _ _ v u Q I rx ry ⟨_, _, rfl, rfl, h⟩
    | exact op_add_str pins s σ H _ _ v u Q I rx ry ⟨_, _, rfl, rfl, h⟩
    | exact (OpR.or op_catS op_catA) pins s σ H _ _ v u Q I rx ry h
def xSub : R2 := fun x y H Q => match x, y with
  | .int i, .int j => Q (.int (i - j)) H
  | _, _ => False
theorem oSub : OpR X (binaryOp .Sub) xSub := by
  intro pins s σ H x y v u Q I rx ry h
  cases x <;> cases y <;> first
    | exact False.elim h
    | exact op_sub pins s σ H _ _ v u Q I rx ry ⟨_, _, rfl, rfl, h⟩
theorem mulI : OpR X (binaryOp .Mult) (rI IntMulOk fun i j => .int (i * j)) := opI fun _ _ _ _ _ _ _ hc q => mul_int q hc
theorem mulS : OpR X (binaryOp .Mult) (fun x y H Q => ∃ a k, x = .str a ∧ y = .int k ∧ MulOk a k ∧ Q (.str (Txt.mul a k)) H) := by
  intro pins s σ H x y v u Q I rx ry h
  obtain ⟨a, k, rfl, rfl, ok, q⟩ := h
  obtain ⟨t, rfl⟩ := rx
  obtain ⟨t', rfl⟩ := ry
  exact SB.mul ok fun t2 k2 => ⟨.str _, H, I.tok k2, ⟨_, rfl⟩, q⟩
def xMul (K : PySem.W.Frag) : R2 := fun x y H Q => match x, y with
  | .int i, .int j => IntMulOk i j ∧ Q (.int (i * j)) H
  | .str a, .int k => MulOk a k ∧ Q (.str (Txt.mul a k)) H
  | .ref a, .int k => rRep (.ref a) (.int k) H Q ∨ rRepT K (.ref a) (.int k) H Q
  | _, _ => False
theorem oMul₀ : OpR X (binaryOp .Mult) (xMul X.K) := by
  intro pins s σ H x y v u Q I rx ry h
  cases x <;> cases y <;> first
    | exact False.elim h
    | exact mulI pins s σ H _ _ v u Q I rx ry ⟨_, _, rfl, rfl, h⟩
    | exact mulS pins s σ H _ _ v u Q I rx ry ⟨_, _, rfl, rfl, h⟩
    | exact (OpR.or op_rep op_repT) pins s σ H _ _ v u Q I rx ry h
def xMod : R2 := fun x y H Q => match x, y with
  | .int i, .int j => 0 < j ∧ Q (.int (i % j)) H
  | _, _ => False
theorem oMod : OpR X (binaryOp .Mod) xMod := by
  intro pins s σ H x y v u Q I rx ry h
  cases x <;> cases y <;> first
    | exact False.elim h
    | exact op_mod pins s σ H _ _ v u Q I rx ry ⟨_, _, rfl, rfl, h⟩
def xDiv : R2 := fun x y H Q => match x, y with
  | .int i, .int j => CDivW i j ∧ Q (.int (i / j)) H
  | _, _ => False
theorem oDiv : OpR X (binaryOp .FloorDiv) xDiv := by
  intro pins s σ H x y v u Q I rx ry h
  cases x <;> cases y <;> first
    | exact False.elim h
    | exact op_fdivW pins s σ H _ _ v u Q I rx ry ⟨_, _, rfl, rfl, h⟩
def PowOk (i j : Int) : Prop := 0 ≤ j ∧ (Builtin.Int.intBits i : Int) * j ≤ 2 ^ 27
def xPow : R2 := fun x y H Q => match x, y with
  | .int i, .int j => PowOk i j ∧ Q (.int (i ^ j.toNat)) H
  | _, _ => False
theorem powI : OpR X (binaryOp .Pow) (rI PowOk fun i j => .int (i ^ j.toNat)) := opI fun _ _ _ _ _ _ _ hc q => pow_int hc.1 hc.2 q
theorem oPow : OpR X (binaryOp .Pow) xPow := by
  intro pins s σ H x y v u Q I rx ry h
  cases x <;> cases y <;> first
    | exact False.elim h
    | exact powI pins s σ H _ _ v u Q I rx ry ⟨_, _, rfl, rfl, h⟩
/-! ### comparisons -/
/-- two lists one of which is empty: their lengths tell -/
def rLen2 (K : PySem.W.Frag) (f : Bool → Bool) : R2 := fun x y H Q => ∃ p q xs ys, x = .ref p ∧ y = .ref q ∧ SqL K H p xs ∧ SqL K H q ys ∧ (xs = [] ∨ ys = []) ∧ Q (.bl (f (decide (xs.length = ys.length)))) H
theorem eqLen (hu : X.A.units < cLine) : OpR X (compareOp .Eq) (rLen2 X.K id) := by
  intro pins s σ H x y v u Q I rx ry h
  obtain ⟨p, q, xs, ys, rfl, rfl, hx, hy, he, k⟩ := h
  cases rx
  cases ry
  obtain ⟨ix, vx, px, _⟩ := I.list hx
  obtain ⟨iy, vy, py, _⟩ := I.list hy
  have lx := vx.length
  have ly := vy.length
  by_cases e : xs.length = ys.length
  · have x0 : ix.toArray.size = 0 := by rcases he with rfl | rfl <;> simp_all
    rw [decide_eq_true e] at k
    refine SeqAt.eq_listAt (e := fun _ => true) px.isList py.isList (by rw [List.size_toArray, List.size_toArray]; omega) hu (fun j h1 _ => by omega) ?_
    rw [x0]
    exact ⟨.bl _, H, I, rfl, k⟩
  · rw [decide_eq_false e] at k
    exact SeqAt.eq_list_lengthsAt px.isList py.isList (by rw [List.size_toArray, List.size_toArray]; simp; omega) hu ⟨.bl _, H, I, rfl, k⟩
theorem neLen (hu : X.A.units < cLine) : OpR X (compareOp .NotEq) (rLen2 X.K (!·)) := by
  intro pins s σ H x y v u Q I rx ry h
  obtain ⟨p, q, xs, ys, rfl, rfl, hx, hy, he, k⟩ := h
  cases rx
  cases ry
  obtain ⟨ix, vx, px, _⟩ := I.list hx
  obtain ⟨iy, vy, py, _⟩ := I.list hy
  have lx := vx.length
  have ly := vy.length
  by_cases e : xs.length = ys.length
  · have x0 : ix.toArray.size = 0 := by rcases he with rfl | rfl <;> simp_all
    rw [decide_eq_true e] at k
    refine SeqAt.RcNeAt.lists (e := fun _ => true) px.isList py.isList (by rw [List.size_toArray, List.size_toArray]; omega) hu (fun j h1 _ => by omega) _ _ _ _ ?_
    rw [x0]
    exact ⟨.bl _, H, I, rfl, k⟩
  · rw [decide_eq_false e] at k
    exact SeqAt.RcNeAt.lists_lengths px.isList py.isList (by rw [List.size_toArray, List.size_toArray]; simp; omega) hu _ _ _ _ ⟨.bl _, H, I, rfl, k⟩
def xEq (K : PySem.W.Frag) : R2 := fun x y H Q => (scal x y = true ∧ Q (.bl (decide (x = y))) H) ∨ rEqD K x y H Q ∨ rLen2 K id x y H Q
theorem oEq₀ (hu : X.A.units + 65 < cLine) : OpR X (compareOp .Eq) (xEq X.K) := OpR.or op_eq (OpR.or (op_eqD (by omega)) (eqLen (by omega)))
def xNe (K : PySem.W.Frag) : R2 := fun x y H Q => (scal x y = true ∧ Q (.bl (!decide (x = y))) H) ∨ rNeD K x y H Q ∨ rLen2 K (!·) x y H Q
theorem oNe₀ (hu : X.A.units + 65 < cLine) : OpR X (compareOp .NotEq) (xNe X.K) := OpR.or op_ne (OpR.or (op_neD (by omega)) (neLen (by omega)))
def xLt : R2 := fun x y H Q => match x, y with
  | .int i, .int j => Q (.bl (decide (i < j))) H
  | .str a, .str b => Q (.bl (decide (a.cps.toList < b.cps.toList))) H
  | _, _ => False
theorem oLt : OpR X (compareOp .Lt) xLt := by
  intro pins s σ H x y v u Q I rx ry h
  cases x <;> cases y <;> first
    | exact False.elim h
    | exact op_lt pins s σ H _ _ v u Q I rx ry ⟨_, _, rfl, rfl, h⟩
    | exact op_lt_str pins s σ H _ _ v u Q I rx ry ⟨_, _, rfl, rfl, h⟩
def xLe : R2 := fun x y H Q => match x, y with
  | .int i, .int j => Q (.bl (decide (i ≤ j))) H
  | .str a, .str b => Q (.bl (!decide (b.cps.toList < a.cps.toList))) H
  | _, _ => False
theorem oLe : OpR X (compareOp .LtE) xLe := by
  intro pins s σ H x y v u Q I rx ry h
  cases x <;> cases y <;> first
    | exact False.elim h
    | exact op_le pins s σ H _ _ v u Q I rx ry ⟨_, _, rfl, rfl, h⟩
    | exact op_le_str pins s σ H _ _ v u Q I rx ry ⟨_, _, rfl, rfl, h⟩
def xGt : R2 := fun x y H Q => match x, y with
  | .int i, .int j => Q (.bl (decide (j < i))) H
  | .str a, .str b => Q (.bl (decide (b.cps.toList < a.cps.toList))) H
  | _, _ => False
theorem oGt : OpR X (compareOp .Gt) xGt := by
  intro pins s σ H x y v u Q I rx ry h
  cases x <;> cases y <;> first
    | exact False.elim h
    | exact op_gt pins s σ H _ _ v u Q I rx ry ⟨_, _, rfl, rfl, h⟩
    | exact op_gt_str pins s σ H _ _ v u Q I rx ry ⟨_, _, rfl, rfl, h⟩
def xGe : R2 := fun x y H Q => match x, y with
  | .int i, .int j => Q (.bl (decide (j ≤ i))) H
  | .str a, .str b => Q (.bl (!decide (a.cps.toList < b.cps.toList))) H
  | _, _ => False
theorem oGe : OpR X (compareOp .GtE) xGe := by
  intro pins s σ H x y v u Q I rx ry h
  cases x <;> cases y <;> first
    | exact False.elim h
    | exact op_ge pins s σ H _ _ v u Q I rx ry ⟨_, _, rfl, rfl, h⟩
    | exact op_ge_str pins s σ H _ _ v u Q I rx ry ⟨_, _, rfl, rfl, h⟩
/-- a text stands in another one -/
def inS (a b : Str) : Bool := !(Builtin.Str.occurrences b a 0 b.length 1).isEmpty
theorem inS_sign (c : Nat) (z : Str) : inS ⟨#[c]⟩ z = decide (c ∈ z.cps.toList) := PySem.StrLaws.found_one z c
def xIn (K : PySem.W.Frag) : R2 := fun x y H Q => match y with
  | .str b => ∃ a, x = .str a ∧ Q (.bl (inS a b)) H
  | .ref p => rIn K false x (.ref p) H Q ∨ rInD K x (.ref p) H Q
  | _ => False
theorem oIn₀ (hu : X.A.units + 65 < cLine) : OpR X (compareOp .In) (xIn X.K) := by
  intro pins s σ H x y v u Q I rx ry h
  cases y with
  | str b =>
    obtain ⟨a, rfl, q⟩ := h
    exact op_in_str pins s σ H _ _ v u Q I rx ry ⟨_, _, rfl, rfl, q⟩
  | ref p => exact (OpR.or op_in_seq (op_inD hu)) pins s σ H _ _ v u Q I rx ry h
  | _ => exact False.elim h
def xNotIn (K : PySem.W.Frag) : R2 := fun x y H Q => match y with
  | .str b => ∃ a, x = .str a ∧ Q (.bl (!inS a b)) H
  | .ref p => rIn K true x (.ref p) H Q ∨ rNotInD K x (.ref p) H Q
  | _ => False
theorem oNotIn₀ (hu : X.A.units + 65 < cLine) : OpR X (compareOp .NotIn) (xNotIn X.K) := by
  intro pins s σ H x y v u Q I rx ry h
  cases y with
  | str b =>
    obtain ⟨a, rfl, q⟩ := h
    exact op_notin_str pins s σ H _ _ v u Q I rx ry ⟨_, _, rfl, rfl, q⟩
  | ref p => exact (OpR.or op_notIn_seq (op_notInD hu)) pins s σ H _ _ v u Q I rx ry h
  | _ => exact False.elim h
def xIs : R2 := fun x y H Q => (y = .non ∧ Q (.bl (decide (x = .non))) H) ∨ rIsB x y H Q
theorem oIs : OpR X (compareOp .Is) xIs := OpR.or op_isN op_isBl
def xIsNot : R2 := fun x y H Q => (y = .non ∧ Q (.bl (!decide (x = .non))) H) ∨ rNotB x y H Q
theorem oIsNot : OpR X (compareOp .IsNot) xIsNot := OpR.or op_notN op_notBl
/-! ### subscripts, slices, len, int, repr, what a for walks -/
def xIx (K : PySem.W.Frag) : R2 := fun x y H Q => match x, y with
  | .str z, .int i => ∃ c, z.length ≤ sizeLine ∧ atI z.cps.toList i = some c ∧ Q (.str ⟨#[c]⟩) H
  | .ref p, .int i => ∃ xs v, (SqL K H p xs ∨ SqT K H p xs) ∧ atI xs i = some v ∧ Q v H
  | _, _ => False
theorem ixX₀ : IxR X (xIx X.K) := by
  intro a b pins s σ H x y v u Q I rx ry h hs
  refine ix_seq a b pins s σ H x y v u Q I rx ry ?_ hs
  cases x <;> cases y <;> first
    | exact False.elim h
    | (obtain ⟨c, h1, h2, q⟩ := h; exact .inr (.inr ⟨_, _, c, rfl, rfl, h1, h2, q⟩))
    | (obtain ⟨xs, v, h1, h2, q⟩ := h
       rcases h1 with h1 | h1
       · exact .inl ⟨_, xs, _, v, rfl, rfl, h1, h2, q⟩
       · exact .inr (.inl ⟨_, xs, _, v, rfl, rfl, h1, h2, q⟩))
def xSl (K : PySem.W.Frag) : V → Option Int → Option Int → Hp → VK → Prop := fun x lo hi H Q => match x with
  | .str z => z.length ≤ sizeLine ∧ Q (.str (cutS z lo hi)) H
  | .ref p => rSlL K (.ref p) lo hi H Q ∨ rSlA K (.ref p) lo hi H Q
  | _ => False
theorem sX₀ : SlR X (xSl X.K) := by
  intro pins s σ H x v vl vu lo hi sl Q I rx hs pl pu h
  refine (SlR.or (SlR.or sl_list sl_tupA) sl_str) pins s σ H x v vl vu lo hi sl Q I rx hs pl pu ?_
  cases x with
  | str z => exact .inr ⟨z, rfl, h⟩
  | ref p => exact .inl h
  | _ => exact False.elim h
def xLen (K : PySem.W.Frag) : List V → Hp → VK → Prop := fun xs H Q => (∃ x n, xs = [x] ∧ LenV K x H n ∧ Q (.int (n : Int)) H) ∨ ∃ a kvs, xs = [V.ref a] ∧ H a = some (.dK kvs) ∧ Q (.int kvs.length) H
theorem call_lenX₀ : CallR X (.builtin "len") (xLen X.K) := fun pins s σ H xs us Q I r h => by
  rcases h with h | h
  · exact call_len pins s σ H xs us Q I r h
  · exact call_lenD pins s σ H xs us Q I r h
def xInt : List V → Hp → VK → Prop := fun xs H Q => match xs with
  | [.int i] => Q (.int i) H
  | [.bl k] => Q (.int (if k then 1 else 0)) H
  | [.str a] => ∃ n, PySem.intText? a = some n ∧ a.length ≤ 640 ∧ Q (.int n) H
  | _ => False
theorem call_intX : CallR X (.type "int") xInt := by
  intro pins s σ H xs us Q I r h
  match xs, h with
  | [.int i], h => exact call_int1 pins s σ H _ us Q I r (.inl ⟨i, rfl, h⟩)
  | [.bl k], h => exact call_int1 pins s σ H _ us Q I r (.inr ⟨k, rfl, h⟩)
  | [.str a], ⟨n, h1, h2, h3⟩ => exact call_int_str pins s σ H _ us Q I r ⟨a, n, rfl, h1, h2, h3⟩
def xMax : List V → Hp → VK → Prop := fun xs H Q => match xs with
  | [.int i, .int j] => Q (.int (max i j)) H
  | _ => False
theorem call_maxX (hc : X.calm = true) : CallR X (.builtin "max") xMax := by
  intro pins s σ H xs us Q I r h
  match xs, h with
  | [.int i, .int j], h =>
    refine call_max2 hc pins s σ H _ us Q I r ⟨i, j, rfl, ?_⟩
    have e : (if j > i then j else i) = max i j := by omega
    rw [e]
    exact h
def xMin : List V → Hp → VK → Prop := fun xs H Q => match xs with
  | [.int i, .int j] => Q (.int (min i j)) H
  | _ => False
theorem call_minX (hc : X.calm = true) : CallR X (.builtin "min") xMin := by
  intro pins s σ H xs us Q I r h
  match xs, h with
  | [.int i, .int j], h =>
    refine call_min2 hc pins s σ H _ us Q I r ⟨i, j, rfl, ?_⟩
    have e : (if j < i then j else i) = min i j := by omega
    rw [e]
    exact h
/-- what may be shown -/
def Shows (d : PyData) : Prop := d.showable = true ∧ d.hasDict = false ∧ d.depth ≤ 60 ∧ d.shown.length ≤ sizeLine
def xRepr (K : PySem.W.Frag) : List V → Hp → VK → Prop := fun xs H Q => ∃ x d, xs = [x] ∧ Dp K H x d ∧ Shows d ∧ Q (.str d.shown) H
theorem call_reprX₀ (hr : Rm 0 X.A) : CallR X (.builtin "repr") (xRepr X.K) := by
  intro pins s σ H xs us Q I r h
  obtain ⟨x, d, rfl, hd, ⟨h1, h2, h3, h4⟩, q⟩ := h
  obtain ⟨u, rfl, rx⟩ := vals1 r
  obtain ⟨as, rd⟩ := Dp.reads I d x u hd rx
  have hu := hr.r.un
  have hl : d.shown.length ≤ sizeLine := h4
  cases u with
  | ref a =>
    refine repr_of_reads' rd h1 (fun e => by rw [h2] at e; cases e) hr.g (by omega) (fun _ _ e => e) ?_ hl
    intro h' t tk keep
    exact ⟨.str _, H, I.kept keep, ⟨_, rfl⟩, q⟩
  | none => cases rd; exact P.repr_of_none ⟨.str _, H, I.tok _, ⟨_, rfl⟩, q⟩
  | bool b => cases rd; exact P.repr_of_bool ⟨.str _, H, I.tok _, ⟨_, by cases b <;> rfl⟩, q⟩
  | int i t =>
    cases rd
    refine P.repr_of_int ?_ ⟨.str _, H, I.tok _, ⟨_, rfl⟩, q⟩
    simpa [PyData.showable] using h1
  | str z t => cases rd; exact P.repr_of_str ⟨.str _, H, I.tok _, ⟨_, rfl⟩, q⟩ hl
  | _ => cases hd <;> cases rx <;> rename_i h <;> cases h
def xList (K : PySem.W.Frag) : List V → Hp → VK → Prop := fun xs H Q => ∃ p ys, xs = [.ref p] ∧ (SqL K H p ys ∨ SqT K H p ys) ∧ ∀ l, H l = none → Q (.ref l) (upd H l (.lst ys))
def xTup (K : PySem.W.Frag) : List V → Hp → VK → Prop := fun xs H Q => ∃ p ys, xs = [.ref p] ∧ ((SqL K H p ys ∧ ∀ l, H l = none → Q (.ref l) (upd H l (.tup ys))) ∨ (SqT K H p ys ∧ Q (.ref p) H))
def xSortDI : List V → Hp → VK → Prop := fun xs H Q => ∃ (a : Addr) (kvs : List (Key × V)) (ks : List Int), xs = [.ref a] ∧ Rd H a (.dK kvs) ∧ kvs.map (·.1) = ks.map Sum.inl ∧ ks.length < 64 ∧
  ∀ (ys : List Int) (p : Addr), ys.Perm ks → ys.Pairwise (· ≤ ·) → H p = none → Q (.ref p) (upd H p (.lst (ys.map V.int)))
/-! the same, the written part named -/
variable {K : PySem.W.Frag}
theorem oAdd (e : X.K = K := by rfl) : OpR X (binaryOp .Add) (xAdd K) := by
  subst e
  exact oAdd₀
theorem oMul (e : X.K = K := by rfl) : OpR X (binaryOp .Mult) (xMul K) := by
  subst e
  exact oMul₀
theorem oEq (hu : X.A.units + 65 < cLine) (e : X.K = K := by rfl) : OpR X (compareOp .Eq) (xEq K) := by
  subst e
  exact oEq₀ hu
theorem oNe (hu : X.A.units + 65 < cLine) (e : X.K = K := by rfl) : OpR X (compareOp .NotEq) (xNe K) := by
  subst e
  exact oNe₀ hu
theorem oIn (hu : X.A.units + 65 < cLine) (e : X.K = K := by rfl) : OpR X (compareOp .In) (xIn K) := by
  subst e
  exact oIn₀ hu
theorem oNotIn (hu : X.A.units + 65 < cLine) (e : X.K = K := by rfl) : OpR X (compareOp .NotIn) (xNotIn K) := by
  subst e
  exact oNotIn₀ hu
theorem ixX (e : X.K = K := by rfl) : IxR X (xIx K) := by
  subst e
  exact ixX₀
theorem sX (e : X.K = K := by rfl) : SlR X (xSl K) := by
  subst e
  exact sX₀
theorem call_lenX (e : X.K = K := by rfl) : CallR X (.builtin "len") (xLen K) := by
  subst e
  exact call_lenX₀
theorem call_reprX (hr : Rm 0 X.A) (e : X.K = K := by rfl) : CallR X (.builtin "repr") (xRepr K) := by
  subst e
  exact call_reprX₀ hr
theorem isiX (e : X.K = K := by rfl) : CallR X (.builtin "isinstance") (rIsi K) := by
  subst e
  exact call_isi
theorem isiTX (e : X.K = K := by rfl) : CallR X (.builtin "isinstance") (rIsiT K) := by
  subst e
  exact call_isiT
theorem allX (hc : X.calm = true) (e : X.K = K := by rfl) : CallR X (.builtin "all") (rAll K) := by
  subst e
  exact cr_all hc
theorem anyX (hc : X.calm = true) (e : X.K = K := by rfl) : CallR X (.builtin "any") (rAny K) := by
  subst e
  exact cr_any hc
/-- whatever a for walks: a list, a tuple, a text -/
def iAny (K : PySem.W.Frag) (te : TE) : TI := fun σ H R => iList K te σ H R ∨ iTup K te σ H R ∨ iStr te σ H R
theorem pi_any {tg e : Expr} {te : TE} (he : PE X e te) (ek : X.K = K := by rfl) : PI X tg e (iAny K te) := by
  subst ek
  refine ⟨fun pins s σ H R I h => ?_⟩
  rcases h with h | h | h
  · exact (pi_list he).run pins s σ H R I h
  · exact (pi_tup he).run pins s σ H R I h
  · exact (pi_str he).run pins s σ H R I h
theorem pe_bmX {o e : Expr} {es : List Expr} {to : TE} {t : TA} {name : Str} {apos cpos : Pos} {T id : String} {r : V → List V → Hp → VK → Prop} (pa : PlainAttrs T) (slot : Slot T name id) (hty : typeOf (.builtin id) = pure (.type "method_descriptor"))
    (hm : MtR X id r) (ho : PE X o to) (ha : PA X (e :: es) t) (ek : X.K = K := by rfl)
    (hbase : attributeBase o name X.env (eval o X.env) = eval o X.env := by rfl)
    (hfew : ((backTo cpos (starEach (e :: es) X.env)).all (fun x => !x.1) && (backToKw cpos (keywordEach [] X.env)).all (fun x => x.1.isSome) && decide ((e :: es).length + ([] : List Keyword).length + (if ([] : List Keyword).isEmpty then 0 else 1) < 30)) = true := by rfl)
    (hline : (apos.endLine == cpos.line) = true := by rfl) (hs : starEach (e :: es) X.env = (false, eval e X.env) :: starEach es X.env := by rfl) (hplain : (backTo cpos (starEach es X.env)).any (·.1) = false := by rfl) :
    PE X (.Call (.Attribute o name apos) (e :: es) [] cpos) (tBM K T r to t) := by
  subst ek
  exact pe_bm pa slot hty hm ho ha hbase hfew hline hs hplain
theorem pe_bm0X {o : Expr} {to : TE} {name : Str} {apos cpos : Pos} {T id : String} {r : V → List V → Hp → VK → Prop} (pa : PlainAttrs T) (slot : Slot T name id) (hty : typeOf (.builtin id) = pure (.type "method_descriptor"))
    (hm : MtR X id r) (ho : PE X o to) (ek : X.K = K := by rfl) (hbase : attributeBase o name X.env (eval o X.env) = eval o X.env := by rfl) (hline : (apos.endLine == cpos.line) = true := by rfl) :
    PE X (.Call (.Attribute o name apos) [] [] cpos) (tBM0 K T r to) := by
  subst ek
  exact pe_bm0 pa slot hty hm ho hbase hline
theorem pg_tupX {es : List Expr} {k : Nat} {t : TGs} {n : Nat} {pos : Pos} (hc : X.calm = true) (h : PGs X es t) (ek : X.K = K := by rfl)
    (hn : (assignEach es X.env).length = n := by rfl) (hst : (assignEach es X.env).findIdx? (·.1) = none := by rfl) : PG X (.Tuple es k pos) (gTup K n t) := by
  subst ek
  exact pg_tup hc h hn hst
theorem pi_enumX {e : Expr} {ta : TA} {p pos tpos : Pos} {elts : List Expr} {kk : Nat} (hg : Gl X "enumerate") (hm : X.mg "enumerate" = none) (ha : PA X [e] ta) (ek : X.K = K := by rfl)
    (hs : starEach [e] X.env = [(false, eval e X.env)] := by rfl) : PI X (.Tuple elts kk tpos) (.Call (.Name "enumerate" p) [e] [] pos) (iEnum K ta) := by
  subst ek
  exact pi_enum hg hm ha hs
theorem pi_zipX {e e2 : Expr} {ta : TA} {p pos tpos : Pos} {elts : List Expr} {kk : Nat} (hg : Gl X "zip") (hm : X.mg "zip" = none) (ha : PA X [e, e2] ta) (ek : X.K = K := by rfl)
    (hs : starEach [e, e2] X.env = (false, eval e X.env) :: starEach [e2] X.env := by rfl) (hpl : (backTo pos (starEach [e2] X.env)).any (·.1) = false := by rfl) :
    PI X (.Tuple elts kk tpos) (.Call (.Name "zip" p) [e, e2] [] pos) (iZip K ta) := by
  subst ek
  exact pi_zip hg hm ha hs hpl
/-- len(set(xs)), xs a list of ints -/
def dist (ns : List Int) : List Int := PyProof.Rows.firstMet (fun i => ns.getD i 0) ns.length
def tLenSetX (K : PySem.W.Frag) (ta : TE) : TE := fun σ H Q => ta σ H fun x H1 => ∃ (l : Addr) (ns : List Int), x = .ref l ∧ SqL K H1 l (ns.map V.int) ∧ ns.length ≤ 4000 ∧ Q (.int ((dist ns).length : Nat)) H1
theorem pe_lenSetX {a : Expr} {ta : TE} {p p2 q pos : Pos} (hg : Gl X "len") (hm : X.mg "len" = none) (hg2 : Gl X "set") (hm2 : X.mg "set" = none) (ha : PE X a ta) (hc : X.calm = true := by rfl) (ek : X.K = K := by rfl)
    (na : starEach [a] X.env = (false, eval a X.env) :: starEach [] X.env := by rfl) : PE X (.Call (.Name "len" p) [.Call (.Name "set" p2) [a] [] q] [] pos) (tLenSetX K ta) := by
  subst ek
  refine ⟨fun pins s σ H Q I h => ?_⟩
  refine Call_ (ld_blt I hg hm boot_len ?_)
  refine PyProof.Rows.callWith_builtin1 (PyProof.Rows.args_cons ?_ rfl) rfl rfl
  refine Call_ (ld_blt I hg2 hm2 boot_set ?_)
  refine PyProof.Rows.callWith_type1 (PyProof.Rows.args_cons (thn (ha.run pins s σ H _ I h) fun v s1 ⟨x, H1, I1, r1, q1⟩ => PyProof.Rows.args_nil ?_) na) na rfl
  obtain ⟨l, ns, rfl, hq, hl, q1⟩ := q1
  cases r1
  obtain ⟨its, r, pl, hz⟩ := I1.list hq
  have hlen : its.toArray.size = ns.length := by rw [List.size_toArray, ← r.length, List.length_map]
  have hb : (dist ns).length ≤ ns.length := firstMet_length_le _ _
  refine call_set_list (I1.ok.hd hc) pl.isList (by simpa using ints_vals r) (by rw [hlen]; unfold scanBound; omega) fun h' tk hS hk => ?_
  refine PyProof.Rows.args_nil ?_
  rw [hlen] at hS
  obtain ⟨o, es, ep, t, ho, hex, hd, _, _, _, hf, hn⟩ := hS
  have hn' : es.size = (dist ns).length := hn
  have I2 : Inv X pins σ H1 { s1 with heap := h', toks := tk } := I1.kept fun b o e => hk b o (Heap.lt_size e) e
  exact call_len_set ho hex hd hf (by rw [hn'] <;> omega) ⟨.int (dist ns).length, H1, I2.tok _, ⟨_, by rw [hn']⟩, q1⟩
theorem callListX (e : X.K = K := by rfl) : CallR X (.type "list") (xList K) := by
  subst e
  exact call_list_of
theorem callTupX (e : X.K = K := by rfl) : CallR X (.type "tuple") (xTup K) := by
  subst e
  exact call_tuple_of
/-- a, b, .. = a tuple or a list of that length -/
def gSeq (K : PySem.W.Frag) (n : Nat) (t : TGs) : TG := fun v σ H Q => gTup K n t v σ H Q ∨ gLst K n t v σ H Q
theorem pg_seqX {es : List Expr} {k : Nat} {t : TGs} {n : Nat} {pos : Pos} (hc : X.calm = true) (h : PGs X es t) (ek : X.K = K := by rfl)
    (hn : (assignEach es X.env).length = n := by rfl) (hst : (assignEach es X.env).findIdx? (·.1) = none := by rfl) : PG X (.Tuple es k pos) (gSeq K n t) := by
  subst ek
  refine ⟨fun pins s σ H v u Q I r hw => ?_⟩
  rcases hw with hw | hw
  · exact (pg_tup hc h hn hst).run pins s σ H v u Q I r hw
  · exact (pg_lst hc h hn hst).run pins s σ H v u Q I r hw
def xStrI : List V → Hp → VK → Prop := fun xs H Q => ∃ i, xs = [.int i] ∧ i.natAbs.log2 < 1920 ∧ Q (.str (toString i)) H
theorem callStrX : CallR X (.type "str") xStrI := call_str_int
theorem pe_revX {e : Expr} {te : TE} {k : Nat} {p1 p2 p3 pos : Pos} (he : PE X e te) (ek : X.K = K := by rfl) : PE X (.Subscript e (.Slice none none (some (.UnaryOp .USub (.Constant (.int 1) k p1) p2)) p3) pos) (tRevL K te) := by
  subst ek
  exact pe_revL he
theorem pa_starX {e : Expr} {es : List Expr} {te : TE} {t : TA} {p : Pos} (he : PE X e te) (hr : PA X es t) (ek : X.K = K := by rfl) (hs : starEach (.Starred e p :: es) X.env = (true, eval e X.env) :: starEach es X.env := by rfl) : PA X (.Starred e p :: es) (StX.tStar K te t) := by
  subst ek
  exact StX.pa_star he hr hs
end
end Mine

/-! ## Readings, step by step -/
namespace Mine
open PySem PySem.Spec PyProof.Rows L2
set_option linter.all false
theorem dec_i {a b : Int} : decide (V.int a = V.int b) = decide (a = b) := by
  rw [Bool.eq_iff_iff]
  simp
theorem dec_s {a b : Str} : decide (V.str a = V.str b) = decide (a = b) := by
  rw [Bool.eq_iff_iff]
  simp
theorem dec_b {a b : Bool} : decide (V.bl a = V.bl b) = (a == b) := by
  cases a <;> cases b <;> rfl
section
variable {σ σ' : St} {H : Hp} {Q : VK} {QB : Bool → Hp → Prop} {QA : List V → Hp → Prop} {QO : Option Int → Hp → Prop} {v x y : V} {i j : Nat} {ta tb tc te : TE} {r r' : R2} {t u : TT} {b : Bool} {K : PySem.W.Frag} {D : Ends} {g : TG} {s s' : TS} {tA tA' : TA} {to tl th : TO}
theorem rd_var (h : σ[i]? = some (some v)) (q : Q v H) : tVar i σ H Q := ⟨v, h, q⟩
theorem rd_c (q : Q v H) : tC v σ H Q := q
theorem rd_op (q : ta σ H fun x H1 => tb σ H1 fun y H2 => r x y H2 Q) : tOp r ta tb σ H Q := q
theorem rd_un {r : V → Hp → VK → Prop} (q : ta σ H fun x H1 => r x H1 Q) : tUn r ta σ H Q := q
theorem rd_test (q : te σ H fun x H' => ∃ k, x = .bl k ∧ QB k H') : tTest te σ H QB := q
theorem rd_tB (q : te σ H fun x H' => ∃ k, x = .bl k ∧ QB k H') : tB te σ H QB := q
theorem rd_bl {QB : Bool → Prop} (q : QB b) : ∃ k, V.bl b = .bl k ∧ QB k := ⟨b, rfl, q⟩
theorem rd_chain (q : ta σ H fun x H1 => tb σ H1 fun y H2 => r x y H2 fun z H3 => ∃ k, z = .bl k ∧ (if k = true then tc σ H3 fun w' H4 => r' y w' H4 Q else Q (.bl false) H3)) : tChain r r' ta tb tc σ H Q := q
theorem rd_ifE (q : t σ H fun c H1 => if c = true then ta σ H1 Q else tb σ H1 Q) : tIf t ta tb σ H Q := q
theorem rd_and (q : t σ H fun c H1 => if c = true then u σ H1 QB else QB false H1) : tAnd t u σ H QB := q
theorem rd_or (q : t σ H fun c H1 => if c = true then QB true H1 else u σ H1 QB) : tOr t u σ H QB := q
theorem rd_not (q : t σ H fun c H1 => QB (!c) H1) : tNot t σ H QB := q
theorem rd_andV (q : ta σ H fun x H1 => ∃ c, x = .bl c ∧ if c = true then tb σ H1 Q else Q (.bl false) H1) : tAndV ta tb σ H Q := q
theorem rd_orV (q : ta σ H fun x H1 => ∃ c, x = .bl c ∧ if c = true then Q (.bl true) H1 else tb σ H1 Q) : tOrV ta tb σ H Q := q
theorem rd_notV (q : ta σ H fun x H1 => ∃ c, x = .bl c ∧ Q (.bl (!c)) H1) : tNotV ta σ H Q := q
theorem rd_nil (q : QA [] H) : tNil σ H QA := q
theorem rd_cons (q : ta σ H fun x H1 => tA σ H1 fun xs H2 => QA (x :: xs) H2) : tCons ta tA σ H QA := q
theorem rd_lst (q : tA σ H fun xs H1 => xs.length ≤ sizeLine ∧ ∀ p, H1 p = none → Q (.ref p) (upd H1 p (.lst xs))) : tLst tA σ H Q := q
theorem rd_tup (q : tA σ H fun xs H1 => xs.length ≤ sizeLine ∧ ∀ p, H1 p = none → Q (.ref p) (upd H1 p (.tup xs))) : tTup tA σ H Q := q
theorem rd_new {A : Prop} {xs : List V} (h : Nat.ble xs.length 100000 = true) (q : A) : xs.length ≤ sizeLine ∧ A := ⟨Nat.le_trans (Nat.le_of_ble_eq_true h) (by decide), q⟩
theorem rd_call {sp : Sp} {ds : List V} {E : XK} (q : tA σ H fun vs H1 => sp (vs ++ ds) H1 Q E) : tCall sp ds E tA σ H Q := q
theorem rd_callK {n m : Nat} {pm : List Nat} {sp : Sp} {E : XK} (q : tA σ H fun vs H1 => tA' σ H1 fun zs H2 => vs.length = n ∧ zs.length = m ∧ sp (gK pm vs zs) H2 Q E) : tCalK n m pm sp E tA tA' σ H Q := q
theorem rd_sp1 {Φ : V → Hp → VK → Prop} {E : XK} {a : V} (q : Φ a H Q) : sp1 Φ ([a] ++ []) H Q E := ⟨a, rfl, q⟩
theorem rd_sp2 {Φ : V → V → Hp → VK → Prop} {E : XK} {a b : V} (q : Φ a b H Q) : sp2 Φ ([a, b] ++ []) H Q E := ⟨a, b, rfl, q⟩
theorem rd_sp3 {Φ : V → V → V → Hp → VK → Prop} {E : XK} {a b c : V} (q : Φ a b c H Q) : sp3 Φ ([a, b, c] ++ []) H Q E := ⟨a, b, c, rfl, q⟩
theorem rd_sp4 {Φ : V → V → V → V → Hp → VK → Prop} {E : XK} {a b c d : V} (q : Φ a b c d H Q) : sp4 Φ ([a, b, c, d] ++ []) H Q E := ⟨a, b, c, d, rfl, q⟩
theorem rd_k {A B C D : Prop} (h : A = True) (h' : B = True) (q : C) : A ∧ B ∧ C := ⟨h ▸ trivial, h' ▸ trivial, q⟩
theorem rd_cb {r : List V → Hp → VK → Prop} (q : tA σ H fun vs H1 => r vs H1 Q) : tCB r tA σ H Q := q
theorem rd_bm0 {T : String} {r : V → List V → Hp → VK → Prop} (q : te σ H fun x H1 => tyV K T x H1 ∧ r x [] H1 Q) : tBM0 K T r te σ H Q := q
theorem rd_bm {T : String} {r : V → List V → Hp → VK → Prop} (q : te σ H fun x H1 => tyV K T x H1 ∧ tA σ H1 fun xs H2 => r x xs H2 Q) : tBM K T r te tA σ H Q := q
theorem rd_m0 {r : V → List V → Hp → VK → Prop} (q : te σ H fun x H1 => (∃ a, x = .str a) ∧ r x [] H1 Q) : tM0 r te σ H Q := q
theorem rd_m1 {r : V → List V → Hp → VK → Prop} (q : te σ H fun x H1 => (∃ a, x = .str a) ∧ ta σ H1 fun y H2 => r x [y] H2 Q) : tM1 r te ta σ H Q := q
theorem rd_tyS {A : Prop} {a : Str} (q : A) : tyV K "str" (.str a) H ∧ A := ⟨rfl, q⟩
theorem rd_isS {A : Prop} {a : Str} (q : A) : (∃ z, V.str a = .str z) ∧ A := ⟨⟨a, rfl⟩, q⟩
theorem rd_tyL {A : Prop} {p : Addr} {xs : List V} (h : SqL K H p xs) (q : A) : tyV K "list" (.ref p) H ∧ A := ⟨.inl ⟨rfl, xs, h⟩, q⟩
theorem rd_sl {r : V → Option Int → Option Int → Hp → VK → Prop} (q : te σ H fun x H1 => tl σ H1 fun l H2 => th σ H2 fun u H3 => r x l u H3 Q) : L2.tSl r te tl th σ H Q := q
theorem rd_noPart (q : QO none H) : tNoPart σ H QO := q
theorem rd_part (q : te σ H fun x H1 => ∃ i, x = .int i ∧ QO (some i) H1) : tPart te σ H QO := q
theorem rd_int {QI : Int → Prop} {n : Int} (q : QI n) : ∃ i, V.int n = .int i ∧ QI i := ⟨n, rfl, q⟩
theorem rd_yes (q : QB true H) : tYes σ H QB := q
/-! statements -/
theorem rd_seq (q : s { D with nx := s' D } σ H) : tSeq s s' D σ H := q
theorem rd_meet (M : St → Hp → Prop) (h : s { D with nx := M } σ H) (k : ∀ σ' H', M σ' H' → s' D σ' H') : tMeet s s' D σ H := ⟨M, h, k⟩
theorem rd_next (q : D.nx σ H) : tNext D σ H := q
theorem rd_brk (q : D.bk σ H) : tBreak D σ H := q
theorem rd_cont (q : D.ct σ H) : tCont D σ H := q
theorem rd_asg (q : te σ H fun x H1 => g x σ H1 D.nx) : tAsg te g D σ H := q
theorem rd_gname {k : St → Hp → Prop} (e : σ.set i (some x) = σ') (q : k σ' H) : gName i x σ H k := by subst e; exact q
theorem rd_gtup {n : Nat} {t : TGs} {a : Addr} {xs : List V} {k : St → Hp → Prop} (h : SqT K H a xs) (e : xs.length = n) (q : t xs σ H k) : gSeq K n t (.ref a) σ H k := .inl ⟨a, xs, rfl, h, e, q⟩
theorem rd_glst {n : Nat} {t : TGs} {a : Addr} {xs : List V} {k : St → Hp → Prop} (h : SqL K H a xs) (e : xs.length = n) (q : t xs σ H k) : gSeq K n t (.ref a) σ H k := .inr ⟨a, xs, rfl, h, e, q⟩
theorem rd_gcons {t : TG} {u : TGs} {vs : List V} {k : St → Hp → Prop} (q : t v σ H fun σ' H' => u vs σ' H' k) : gCons t u (v :: vs) σ H k := ⟨v, vs, rfl, q⟩
theorem rd_gnil {k : St → Hp → Prop} (q : k σ H) : gNil [] σ H k := ⟨rfl, q⟩
theorem rd_gsub {t : TSet} {k : St → Hp → Prop} (q : ta σ H fun o H1 => tb σ H1 fun i H2 => t o i v H2 fun H3 => k σ H3) : gSub ta tb t v σ H k := q
theorem rd_par (q : tA σ H fun vs H1 => ∃ v w, vs = [v, w] ∧ D.nx ((σ.set i (some v)).set j (some w)) H1) : tPar i j tA D σ H := q
theorem rd_par2 {a b : V} (e : (σ.set i (some a)).set j (some b) = σ') (q : D.nx σ' H) : ∃ v w, [a, b] = [v, w] ∧ D.nx ((σ.set i (some v)).set j (some w)) H := ⟨a, b, rfl, by rw [e]; exact q⟩
theorem rd_drop (q : te σ H fun _ H1 => D.nx σ H1) : tDrop te D σ H := q
theorem rd_ret (q : te σ H D.rt) : tRet te D σ H := q
theorem rd_retN (q : D.rt .non H) : tRetN D σ H := q
theorem rd_ifS (q : t σ H fun b H1 => if b = true then s D σ H1 else s' D σ H1) : tIfS t s s' D σ H := q
theorem rd_aug {ti : TIp} (h : σ[i]? = some (some x)) (q : te σ H fun y H1 => ti x y H1 fun z H2 => D.nx (σ.set i (some z)) H2) : tAug i te ti D σ H := ⟨x, h, q⟩
theorem rd_ipI {f : Int → Int → Int} {a b : Int} (q : Q (.int (f a b)) H) : ipI f (.int a) (.int b) H Q := ⟨a, b, rfl, rfl, q⟩
/-! what is asked of values -/
theorem rd_addI {a b : Int} (q : Q (.int (a + b)) H) : xAdd K (.int a) (.int b) H Q := q
theorem rd_addS {a b : Str} (h : a.length + b.length ≤ sizeLine) (q : Q (.str (a ++ b)) H) : xAdd K (.str a) (.str b) H Q := ⟨h, q⟩
theorem rd_subI {a b : Int} (q : Q (.int (a - b)) H) : xSub (.int a) (.int b) H Q := q
theorem rd_mulI {a b : Int} (h : IntMulOk a b) (q : Q (.int (a * b)) H) : xMul K (.int a) (.int b) H Q := ⟨h, q⟩
theorem rd_modI {a b : Int} (h : 0 < b) (q : Q (.int (a % b)) H) : xMod (.int a) (.int b) H Q := ⟨h, q⟩
theorem rd_modL {a b : Int} (h : 0 < b) (q : ∀ z, 0 ≤ z → z < b → Q (.int z) H) : xMod (.int a) (.int b) H Q := ⟨h, q _ (Int.emod_nonneg _ (by omega)) (Int.emod_lt_of_pos _ h)⟩
theorem rd_divI {a b : Int} (h : CDivW a b) (q : Q (.int (a / b)) H) : xDiv (.int a) (.int b) H Q := ⟨h, q⟩
theorem rd_powI {a b : Int} (h : PowOk a b) (q : Q (.int (a ^ b.toNat)) H) : xPow (.int a) (.int b) H Q := ⟨h, q⟩
theorem rd_ltI {a b : Int} (q : Q (.bl (decide (a < b))) H) : xLt (.int a) (.int b) H Q := q
theorem rd_leI {a b : Int} (q : Q (.bl (decide (a ≤ b))) H) : xLe (.int a) (.int b) H Q := q
theorem rd_gtI {a b : Int} (q : Q (.bl (decide (b < a))) H) : xGt (.int a) (.int b) H Q := q
theorem rd_geI {a b : Int} (q : Q (.bl (decide (b ≤ a))) H) : xGe (.int a) (.int b) H Q := q
theorem rd_ltS {a b : Str} (q : Q (.bl (decide (a.cps.toList < b.cps.toList))) H) : xLt (.str a) (.str b) H Q := q
theorem rd_leS {a b : Str} (q : Q (.bl (!decide (b.cps.toList < a.cps.toList))) H) : xLe (.str a) (.str b) H Q := q
theorem rd_gtS {a b : Str} (q : Q (.bl (decide (b.cps.toList < a.cps.toList))) H) : xGt (.str a) (.str b) H Q := q
theorem rd_geS {a b : Str} (q : Q (.bl (!decide (a.cps.toList < b.cps.toList))) H) : xGe (.str a) (.str b) H Q := q
theorem rd_eqI {a b : Int} (q : Q (.bl (decide (a = b))) H) : xEq K (.int a) (.int b) H Q := .inl ⟨rfl, by rw [dec_i]; exact q⟩
theorem rd_eqS {a b : Str} (q : Q (.bl (decide (a = b))) H) : xEq K (.str a) (.str b) H Q := .inl ⟨rfl, by rw [dec_s]; exact q⟩
theorem rd_neI {a b : Int} (q : Q (.bl (!decide (a = b))) H) : xNe K (.int a) (.int b) H Q := .inl ⟨rfl, by rw [dec_i]; exact q⟩
theorem rd_neS {a b : Str} (q : Q (.bl (!decide (a = b))) H) : xNe K (.str a) (.str b) H Q := .inl ⟨rfl, by rw [dec_s]; exact q⟩
theorem rd_eqB {a b : Bool} (q : Q (.bl (a == b)) H) : xEq K (.bl a) (.bl b) H Q := .inl ⟨rfl, by rw [dec_b]; exact q⟩
theorem rd_neB {a b : Bool} (q : Q (.bl (a != b)) H) : xNe K (.bl a) (.bl b) H Q := .inl ⟨rfl, by rw [dec_b]; exact q⟩
theorem rd_inS {a b : Str} (q : Q (.bl (inS a b)) H) : xIn K (.str a) (.str b) H Q := ⟨a, rfl, q⟩
theorem rd_notInS {a b : Str} (q : Q (.bl (!inS a b)) H) : xNotIn K (.str a) (.str b) H Q := ⟨a, rfl, q⟩
theorem rd_inT {p : Addr} {xs : List V} (h : SqT K H p xs) (f : flatV x = true) (f' : xs.all flatV = true) (q : Q (.bl (inV x xs)) H) : xIn K x (.ref p) H Q := .inl ⟨p, xs, rfl, .inr h, f, f', q⟩
theorem rd_inL {p : Addr} {xs : List V} (h : SqL K H p xs) (f : flatV x = true) (f' : xs.all flatV = true) (q : Q (.bl (inV x xs)) H) : xIn K x (.ref p) H Q := .inl ⟨p, xs, rfl, .inl h, f, f', q⟩
theorem rd_notInT {p : Addr} {xs : List V} (h : SqT K H p xs) (f : flatV x = true) (f' : xs.all flatV = true) (q : Q (.bl (!inV x xs)) H) : xNotIn K x (.ref p) H Q := .inl ⟨p, xs, rfl, .inr h, f, f', q⟩
theorem rd_notInL {p : Addr} {xs : List V} (h : SqL K H p xs) (f : flatV x = true) (f' : xs.all flatV = true) (q : Q (.bl (!inV x xs)) H) : xNotIn K x (.ref p) H Q := .inl ⟨p, xs, rfl, .inl h, f, f', q⟩
theorem rd_eqNil {p q : Addr} {xs : List V} (h : SqL K H p xs) (h' : SqL K H q []) (k : Q (.bl xs.isEmpty) H) : xEq K (.ref p) (.ref q) H Q :=
  .inr (.inr ⟨p, q, xs, [], rfl, rfl, h, h', .inr rfl, by cases xs <;> exact k⟩)
theorem rd_neNil {p q : Addr} {xs : List V} (h : SqL K H p xs) (h' : SqL K H q []) (k : Q (.bl (!xs.isEmpty)) H) : xNe K (.ref p) (.ref q) H Q :=
  .inr (.inr ⟨p, q, xs, [], rfl, rfl, h, h', .inr rfl, by cases xs <;> exact k⟩)
theorem rd_eqD {d e : PyData} (hd : Dp K H x d) (he : Dp K H y e) (sd : SeqAt.shaped d = true) (se : SeqAt.shaped e = true) (q : Q (.bl (PyData.eqv d e)) H) : xEq K x y H Q := .inr (.inl ⟨d, e, hd, he, sd, se, q⟩)
theorem rd_neD {d e : PyData} (hd : Dp K H x d) (he : Dp K H y e) (sd : SeqAt.shaped d = true) (se : SeqAt.shaped e = true) (q : Q (.bl (!PyData.eqv d e)) H) : xNe K x y H Q := .inr (.inl ⟨d, e, hd, he, sd, se, q⟩)
theorem rd_is (q : Q (.bl (decide (x = .non))) H) : xIs x .non H Q := .inl ⟨rfl, q⟩
theorem rd_isNot (q : Q (.bl (!decide (x = .non))) H) : xIsNot x .non H Q := .inl ⟨rfl, q⟩
theorem rd_isB {a b : Bool} (q : Q (.bl (decide (a = b))) H) : xIs (.bl a) (.bl b) H Q := .inr ⟨a, b, rfl, rfl, q⟩
theorem rd_notB {a b : Bool} (q : Q (.bl (!decide (a = b))) H) : xIsNot (.bl a) (.bl b) H Q := .inr ⟨a, b, rfl, rfl, q⟩
theorem rd_revL {te : TE} (q : te σ H fun x H1 => ∃ a xs, x = .ref a ∧ SqL K H1 a xs ∧ ∀ p, H1 p = none → Q (.ref p) (upd H1 p (.lst xs.reverse))) : tRevL K te σ H Q := q
theorem rd_rev2 {p : Addr} {xs : List V} (h : SqL K H p xs) (q : ∀ l, H l = none → Q (.ref l) (upd H l (.lst xs.reverse))) : ∃ a xs, V.ref p = .ref a ∧ SqL K H a xs ∧ ∀ p, H p = none → Q (.ref p) (upd H p (.lst xs.reverse)) := ⟨p, xs, rfl, h, q⟩
theorem rd_star {te : TE} (q : te σ H fun y H1 => ∃ a xs, y = .ref a ∧ (SqT K H1 a xs ∨ SqL K H1 a xs) ∧ tA σ H1 fun vs H2 => QA (xs ++ vs) H2) : StX.tStar K te tA σ H QA := q
theorem rd_starL {p : Addr} {xs : List V} {N : List V → Prop} (h : SqL K H p xs) (q : N xs) : ∃ a ys, V.ref p = .ref a ∧ (SqT K H a ys ∨ SqL K H a ys) ∧ N ys := ⟨p, xs, rfl, .inr h, q⟩
theorem rd_starT {p : Addr} {xs : List V} {N : List V → Prop} (h : SqT K H p xs) (q : N xs) : ∃ a ys, V.ref p = .ref a ∧ (SqT K H a ys ∨ SqL K H a ys) ∧ N ys := ⟨p, xs, rfl, .inl h, q⟩
theorem rd_ixL {p : Addr} {xs : List V} {n : Int} (h : SqL K H p xs) (e : atI xs n = some v) (q : Q v H) : xIx K (.ref p) (.int n) H Q := ⟨xs, v, .inl h, e, q⟩
theorem rd_ixT {p : Addr} {xs : List V} {n : Int} (h : SqT K H p xs) (e : atI xs n = some v) (q : Q v H) : xIx K (.ref p) (.int n) H Q := ⟨xs, v, .inr h, e, q⟩
theorem rd_ixLU {p : Addr} {xs : List V} {n : Int} (e : atI xs n = some v) (q : Q v (upd H p (.lst xs))) : xIx K (.ref p) (.int n) (upd H p (.lst xs)) Q := rd_ixL (SqL.of upd_same) e q
theorem rd_ixTU {p : Addr} {xs : List V} {n : Int} (e : atI xs n = some v) (q : Q v (upd H p (.tup xs))) : xIx K (.ref p) (.int n) (upd H p (.tup xs)) Q := rd_ixT (SqT.of upd_same) e q
theorem rd_ixS {z : Str} {n : Int} {c : Nat} (h : z.length ≤ sizeLine) (e : atI z.cps.toList n = some c) (q : Q (.str ⟨#[c]⟩) H) : xIx K (.str z) (.int n) H Q := ⟨c, h, e, q⟩
theorem rd_slS {z : Str} {lo hi : Option Int} (h : z.length ≤ sizeLine) (q : Q (.str (cutS z lo hi)) H) : xSl K (.str z) lo hi H Q := ⟨h, q⟩
theorem rd_slL {p : Addr} {xs : List V} {lo hi : Option Int} (h : SqL K H p xs) (q : ∀ l, H l = none → Q (.ref l) (upd H l (.lst (cutV xs lo hi)))) : xSl K (.ref p) lo hi H Q := .inl ⟨p, xs, rfl, h, q⟩
theorem rd_lenS {z : Str} (h : z.length ≤ sizeLine) (q : Q (.int (z.length : Nat)) H) : xLen K [.str z] H Q := .inl ⟨_, _, rfl, ⟨h, rfl⟩, q⟩
theorem rd_lenL {p : Addr} {xs : List V} (h : SqL K H p xs) (q : Q (.int (xs.length : Nat)) H) : xLen K [.ref p] H Q := .inl ⟨_, _, rfl, .inl ⟨xs, h, rfl⟩, q⟩
theorem rd_lenT {p : Addr} {xs : List V} (h : SqT K H p xs) (q : Q (.int (xs.length : Nat)) H) : xLen K [.ref p] H Q := .inl ⟨_, _, rfl, .inr ⟨xs, h, rfl⟩, q⟩
theorem rd_intI {n : Int} (q : Q (.int n) H) : xInt [.int n] H Q := q
theorem rd_intB (q : Q (.int (if b then 1 else 0)) H) : xInt [.bl b] H Q := q
theorem rd_abs {n : Int} (q : Q (.int (if n < 0 then -n else n)) H) : ∃ i, [V.int n] = [.int i] ∧ Q (.int (if i < 0 then -i else i)) H := ⟨n, rfl, q⟩
theorem rd_max {n m : Int} (q : Q (.int (max n m)) H) : xMax [.int n, .int m] H Q := q
theorem rd_min {n m : Int} (q : Q (.int (min n m)) H) : xMin [.int n, .int m] H Q := q
theorem rd_repr {d : PyData} (h : Dp K H x d) (h' : Shows d) (q : Q (.str d.shown) H) : xRepr K [x] H Q := ⟨x, d, rfl, h, h', q⟩
theorem rd_isi {T : String} {t : Value} (ty : TyX K H x t) (e : PySem.W.kitOne K t (.type T) = some b) (q : Q (.bl b) H) : rIsi K [x, .ty T] H Q := ⟨x, .ty T, t, .type T, b, rfl, .ty T, ty, e, q⟩
theorem rd_isiS {z : Str} (q : Q (.bl true) H) : rIsi K [.str z, .ty "str"] H Q := rd_isi (b := true) (.base (.str z)) (kit_ty (by decide +kernel)) q
theorem rd_isiSN (q : Q (.bl false) H) : rIsi K [.non, .ty "str"] H Q := rd_isi (b := false) (.base .non) (kit_ty (by decide +kernel)) q
theorem rd_isiSI {n : Int} (q : Q (.bl false) H) : rIsi K [.int n, .ty "str"] H Q := rd_isi (b := false) (.base (.int n)) (kit_ty (by decide +kernel)) q
theorem rd_isiSB {c : Bool} (q : Q (.bl false) H) : rIsi K [.bl c, .ty "str"] H Q := rd_isi (b := false) (.base (.bl c)) (kit_ty (by decide +kernel)) q
theorem rd_isiI {n : Int} (q : Q (.bl true) H) : rIsi K [.int n, .ty "int"] H Q := rd_isi (b := true) (.base (.int n)) (kit_ty (by decide +kernel)) q
theorem rd_isiIB {c : Bool} (q : Q (.bl true) H) : rIsi K [.bl c, .ty "int"] H Q := rd_isi (b := true) (.base (.bl c)) (kit_ty (by decide +kernel)) q
theorem rd_isiIN (q : Q (.bl false) H) : rIsi K [.non, .ty "int"] H Q := rd_isi (b := false) (.base .non) (kit_ty (by decide +kernel)) q
theorem rd_isiIS {z : Str} (q : Q (.bl false) H) : rIsi K [.str z, .ty "int"] H Q := rd_isi (b := false) (.base (.str z)) (kit_ty (by decide +kernel)) q
theorem rd_isiB {c : Bool} (q : Q (.bl true) H) : rIsi K [.bl c, .ty "bool"] H Q := rd_isi (b := true) (.base (.bl c)) (kit_ty (by decide +kernel)) q
theorem rd_isiBI {n : Int} (q : Q (.bl false) H) : rIsi K [.int n, .ty "bool"] H Q := rd_isi (b := false) (.base (.int n)) (kit_ty (by decide +kernel)) q
theorem rd_rep {p : Addr} {xs : List V} {n : Int} (h : H p = some (.lst xs)) (h0 : 0 ≤ n) (h1 : n < 1000000) (hz : xs.length * n.toNat ≤ sizeLine) (q : ∀ l, H l = none → Q (.ref l) (upd H l (.lst (List.replicate n.toNat xs).flatten))) : xMul K (.ref p) (.int n) H Q :=
  .inl ⟨p, n, xs, rfl, rfl, h, by omega, by omega, hz, q⟩
theorem rd_repT {p : Addr} {xs : List V} {n : Int} (h : SqT K H p xs) (hn : xs ≠ []) (h0 : 2 ≤ n) (h1 : n ≤ 1000) (hz : xs.length ≤ 1000) (q : ∀ l, H l = none → Q (.ref l) (upd H l (.tup (List.replicate n.toNat xs).flatten))) : xMul K (.ref p) (.int n) H Q :=
  .inr ⟨p, n, xs, rfl, rfl, h, hn, h0, h1, hz, q⟩
theorem rd_inD {p : Addr} {d : PyData} {ds : List PyData} (hd : Dp K H x d) (he : Dp K H (.ref p) (.list ds)) (sd : SeqAt.shaped d = true) (se : SeqAt.shaped (.list ds) = true) (q : Q (.bl (ds.any fun z => PyData.eqv z d)) H) : xIn K x (.ref p) H Q := .inr ⟨d, ds, hd, he, sd, se, q⟩
theorem rd_notInD {p : Addr} {d : PyData} {ds : List PyData} (hd : Dp K H x d) (he : Dp K H (.ref p) (.list ds)) (sd : SeqAt.shaped d = true) (se : SeqAt.shaped (.list ds) = true) (q : Q (.bl (!ds.any fun z => PyData.eqv z d)) H) : xNotIn K x (.ref p) H Q := .inr ⟨d, ds, hd, he, sd, se, q⟩
theorem rd_lenD {p : Addr} {kvs : List (Key × V)} (h : H p = some (.dK kvs)) (q : Q (.int kvs.length) H) : xLen K [.ref p] H Q := .inr ⟨p, kvs, rfl, h, q⟩
theorem rd_catT {p l : Addr} {xs ys : List V} (h : SqT K H p xs) (h' : SqT K H l ys) (hx : xs ≠ []) (hy : ys ≠ []) (hz : xs.length + ys.length ≤ sizeLine) (q : ∀ r, H r = none → Q (.ref r) (upd H r (.tup (xs ++ ys)))) : xAdd K (.ref p) (.ref l) H Q := .inr ⟨p, l, xs, ys, rfl, rfl, h, h', hz, fun e => absurd e hx, fun _ e => absurd e hy, fun _ _ => q⟩
theorem rd_slT {p : Addr} {xs : List V} {lo hi : Option Int} (h : SqT K H p xs) (n : ¬ (HT.sIx xs.length 0 lo = 0 ∧ HT.sIx xs.length xs.length hi = xs.length)) (q : ∀ l, H l = none → Q (.ref l) (upd H l (.tup (cutV xs lo hi)))) : xSl K (.ref p) lo hi H Q := .inr ⟨p, xs, rfl, h, fun c => absurd c n, fun _ => q⟩
theorem rd_slTA {p : Addr} {xs : List V} {lo hi : Option Int} (h : H p = some (.tup xs)) (q : ∀ r H', (∀ a o, H a = some o → H' a = some o) → H' r = some (.tup (cutV xs lo hi)) → (r = p ∧ H' = H) ∨ (H r = none ∧ H' = upd H r (.tup (cutV xs lo hi))) → Q (.ref r) H') : xSl K (.ref p) lo hi H Q := by
  refine .inr ⟨p, xs, rfl, SqT.of h, fun c => ?_, fun _ r hr => ?_⟩
  · refine q p H (fun _ _ e => e) ?_ (.inl ⟨rfl, rfl⟩)
    rw [h]
    unfold cutV
    rw [c.1, c.2, List.drop_zero, Nat.sub_zero, List.take_length]
  · refine q r _ (fun a o e => ?_) upd_same (.inr ⟨hr, rfl⟩)
    rw [upd_ne (ne_of_none e hr)]
    exact e
theorem rd_catTA {p l : Addr} {xs ys : List V} (h : H p = some (.tup xs)) (h' : H l = some (.tup ys)) (hz : xs.length + ys.length ≤ sizeLine) (q : ∀ r H', (∀ a o, H a = some o → H' a = some o) → H' r = some (.tup (xs ++ ys)) → ((r = p ∨ r = l) ∧ H' = H) ∨ (H r = none ∧ H' = upd H r (.tup (xs ++ ys))) → Q (.ref r) H') : xAdd K (.ref p) (.ref l) H Q := by
  refine .inr ⟨p, l, xs, ys, rfl, rfl, SqT.of h, SqT.of h', hz, fun e => ?_, fun _ e => ?_, fun _ _ r hr => q r _ (fun a o e => by rw [upd_ne (ne_of_none e hr)]; exact e) upd_same (.inr ⟨hr, rfl⟩)⟩
  · exact q l H (fun _ _ e => e) (by rw [h', e, List.nil_append]) (.inl ⟨.inr rfl, rfl⟩)
  · exact q p H (fun _ _ e => e) (by rw [h, e, List.append_nil]) (.inl ⟨.inl rfl, rfl⟩)
theorem rd_lenSet {ta : TE} (q : ta σ H fun x H1 => ∃ (l : Addr) (ns : List Int), x = .ref l ∧ SqL K H1 l (ns.map V.int) ∧ ns.length ≤ 4000 ∧ Q (.int ((dist ns).length : Nat)) H1) : tLenSetX K ta σ H Q := q
theorem rd_isiT {p : Addr} {xs : List V} (h : H p = some (.tup xs)) (q : Q (.bl true) H) : rIsi K [.ref p, .ty "tuple"] H Q := rd_isi (b := true) (.base (.tup h)) (kit_ty (by decide +kernel)) q
theorem rd_isiL {p : Addr} {xs : List V} (h : H p = some (.lst xs)) (q : Q (.bl true) H) : rIsi K [.ref p, .ty "list"] H Q := rd_isi (b := true) (.base (.lst h)) (kit_ty (by decide +kernel)) q
theorem rd_mulS {z : Str} {n : Int} (hz : z.length ≤ 16) (hn : n ≤ 1048576) (h0 : 0 ≤ n) (q : Q (.str (Txt.mul z n)) H) : xMul K (.str z) (.int n) H Q := ⟨mulOk_of 16 1048576 hz hn (by omega) (by decide) (by decide), q⟩
theorem rd_catS {p l : Addr} {xs ys : List V} (h : SqL K H p xs) (h' : SqL K H l ys) (hz : xs.length + ys.length ≤ sizeLine) (q : ∀ r, H r = none → Q (.ref r) (upd H r (.lst (xs ++ ys)))) : xAdd K (.ref p) (.ref l) H Q :=
  .inl ⟨p, l, xs, ys, rfl, rfl, h, h', hz, q⟩
theorem rd_cat {p l : Addr} {xs ys : List V} (h : H p = some (.lst xs)) (h' : H l = some (.lst ys)) (hz : xs.length + ys.length ≤ sizeLine) (q : ∀ r, H r = none → Q (.ref r) (upd H r (.lst (xs ++ ys)))) : xAdd K (.ref p) (.ref l) H Q :=
  rd_catS (.of h) (.of h') hz q
theorem rd_wipe {s1 s2 : St} {ws : List Nat} {A : Prop} (h : wipe s1 ws = wipe s2 ws) (q : A) : wipe s1 ws = wipe s2 ws ∧ A := ⟨h, q⟩
theorem rd_split {a b : Str} (h : (b.length == 0) = false) (hz : a.length ≤ 1000000) (q : ∀ p, H p = none → Q (.ref p) (upd H p (.lst ((Txt.split a b).map V.str)))) :
    ∃ a' b', V.str a = .str a' ∧ [V.str b] = [.str b'] ∧ (b'.length == 0) = false ∧ a'.length + 2 ≤ sizeLine ∧ rNewStrs (Txt.split a' b') H Q := ⟨a, b, rfl, rfl, h, Nat.le_trans (Nat.add_le_add_right hz 2) (by decide), q⟩
theorem rd_app {p : Addr} {xs : List V} (h : H p = some (.lst xs)) (l : xs.length < sizeLine) (q : Q .non (upd H p (.lst (xs ++ [x])))) : rAppend (.ref p) [x] H Q := ⟨p, xs, x, rfl, rfl, h, l, q⟩
theorem rd_all {p : Addr} {bs : List Bool} (h : SqL K H p (bs.map V.bl)) (q : Q (.bl (bs.all id)) H) : rAll K [.ref p] H Q := ⟨p, bs, rfl, h, q⟩
theorem rd_any {p : Addr} {bs : List Bool} (h : SqL K H p (bs.map V.bl)) (q : Q (.bl (bs.any id)) H) : rAny K [.ref p] H Q := ⟨p, bs, rfl, h, q⟩
theorem rd_setL {p : Addr} {xs : List V} {n : Int} {j : Nat} {QH : Hp → Prop} (h : H p = some (.lst xs)) (e : ixN xs.length n = some j) (q : QH (upd H p (.lst (xs.set j v)))) : rSetL (.ref p) (.int n) v H QH := ⟨p, xs, n, j, rfl, rfl, h, e, q⟩
theorem rd_setLU {p : Addr} {xs : List V} {n : Int} {j : Nat} {QH : Hp → Prop} (e : ixN xs.length n = some j) (q : QH (upd (upd H p (.lst xs)) p (.lst (xs.set j v)))) : rSetL (.ref p) (.int n) v (upd H p (.lst xs)) QH := rd_setL upd_same e q
theorem rd_ite {A B : Prop} (h1 : b = true → A) (h2 : b = false → B) : if b = true then A else B := by
  cases b with
  | true => exact h1 rfl
  | false => exact h2 rfl
theorem rd_yT {A B : Prop} (h : A) : if true = true then A else B := by rw [if_pos rfl]; exact h
theorem rd_yF {A B : Prop} (h : A) : if (!false) = true then A else B := by rw [if_pos (show (!false) = true from rfl)]; exact h
theorem rd_nF {A B : Prop} (h : B) : if false = true then A else B := by rw [if_neg Bool.false_ne_true]; exact h
theorem rd_nT {A B : Prop} (h : B) : if (!true) = true then A else B := by rw [if_neg (by decide)]; exact h
theorem rd_yesI {A B : Prop} (e : b = true) (h : A) : if b = true then A else B := by rw [if_pos e]; exact h
theorem rd_noI {A B : Prop} (e : b = false) (h : B) : if b = true then A else B := by rw [if_neg (by rw [e]; decide)]; exact h
theorem rd_dput {td ty tv : TE} (q : tv σ H fun v H1 => td σ H1 fun x H2 => ty σ H2 fun y H3 => ∃ a H4, x = .ref a ∧ DPut H3 a y v H4 ∧ D.nx σ H4) : sDPut td ty tv D σ H := q
theorem rd_putI {p : Addr} {kvs : List (Key × V)} {n : Int} {N : Hp → Prop} (h : H p = some (.dK kvs)) (l : kvs.length < sizeLine) (q : N (upd H p (.dK (putK kvs (Sum.inl n) v)))) : ∃ a H4, V.ref p = .ref a ∧ DPut H a (.int n) v H4 ∧ N H4 :=
  ⟨p, _, rfl, DPut.k (k := Sum.inl n) h l, q⟩
theorem rd_putS {p : Addr} {kvs : List (Key × V)} {n : Str} {N : Hp → Prop} (h : H p = some (.dK kvs)) (l : kvs.length < sizeLine) (q : N (upd H p (.dK (putK kvs (Sum.inr n) v)))) : ∃ a H4, V.ref p = .ref a ∧ DPut H a (.str n) v H4 ∧ N H4 :=
  ⟨p, _, rfl, DPut.k (k := Sum.inr n) h l, q⟩
theorem rd_dnew (q : ∀ p, H p = none → Q (.ref p) (upd H p (.dK []))) : tDNewK σ H Q := q
theorem rd_sortDI {p : Addr} {kvs : List (Key × V)} {ks : List Int} (h : H p = some (.dK kvs)) (e : kvs.map (·.1) = ks.map Sum.inl) (l : ks.length < 64) (q : ∀ (ys : List Int) (r : Addr), ys.Perm ks → ys.Pairwise (· ≤ ·) → H r = none → Q (.ref r) (upd H r (.lst (ys.map V.int)))) :
    xSortDI [V.ref p] H Q := ⟨p, kvs, ks, rfl, .of h, e, l, q⟩
theorem rd_tupL {p : Addr} {ys : List V} (h : SqL K H p ys) (q : ∀ l, H l = none → Q (.ref l) (upd H l (.tup ys))) : xTup K [V.ref p] H Q := ⟨p, ys, rfl, .inl ⟨h, q⟩⟩
theorem rd_tupT {p : Addr} {ys : List V} (h : SqT K H p ys) (q : Q (.ref p) H) : xTup K [V.ref p] H Q := ⟨p, ys, rfl, .inr ⟨h, q⟩⟩
theorem rd_lstL {p : Addr} {ys : List V} (h : SqL K H p ys) (q : ∀ l, H l = none → Q (.ref l) (upd H l (.lst ys))) : xList K [V.ref p] H Q := ⟨p, ys, rfl, .inl h, q⟩
theorem rd_lstT {p : Addr} {ys : List V} (h : SqT K H p ys) (q : ∀ l, H l = none → Q (.ref l) (upd H l (.lst ys))) : xList K [V.ref p] H Q := ⟨p, ys, rfl, .inr h, q⟩
/-! loops -/
variable {a : Addr} {xs ys : List V} {z : Str} {tt : TT} {vs : List Nat}
/-- a turn of a while -/
def WhT (m : Nat) (W : Nat → St → Hp → Prop) (s : TS) (D : Ends) (σ : St) (H : Hp) : Prop := ∃ N : St → Hp → Prop, (∀ σ' H', N σ' H' → ∃ m', m' < m ∧ W m' σ' H') ∧ s { D with nx := N, ct := N, bk := D.nx } σ H
/-- while, by a word W over a number that falls -/
theorem rd_while {tc : TT} (W : Nat → St → Hp → Prop) (m0 : Nat) (h0 : W m0 σ H)
    (hs : ∀ m σ H, W m σ H → tc σ H fun b H1 => if b = true then WhT m W s D σ H1 else D.nx σ H1) : tWhile tc s D σ H := ⟨W, ⟨m0, h0⟩, hs⟩
theorem rd_turn {m : Nat} {W : Nat → St → Hp → Prop} (q : s { D with nx := fun σ' H' => ∃ m', m' < m ∧ W m' σ' H', ct := fun σ' H' => ∃ m', m' < m ∧ W m' σ' H', bk := D.nx } σ H) : WhT m W s D σ H := ⟨_, fun _ _ h => h, q⟩
/-- what stands behind the walked thing in a for's reading -/
def ForW (J : It) (g : TG) (tb : TS) (D : Ends) (σ : St) (H : Hp) : Prop := ∃ W : Nat → Nat → St → Hp → Prop, (∃ m, W 0 m σ H) ∧ ∀ i m σ H, W i m σ H →
  (J.stop i H ∧ D.nx σ H) ∨ (J.go i H ∧ ∃ N : St → Hp → Prop, (∀ σ' H', N σ' H' → ∃ m', m' < m ∧ W (i + 1) m' σ' H') ∧ ∀ x H', J.yld i H x H' → g x σ H' fun σ2 H2 => tb { D with nx := N, ct := N, bk := D.nx } σ2 H2)
theorem rd_forL (q : te σ H fun x H1 => ∃ a, x = .ref a ∧ (∃ xs, SqL K H1 a xs) ∧ ForW (Itl K a) g s D σ H1) : tFor (iAny K te) g s D σ H := .inl q
theorem rd_forT (q : te σ H fun x H1 => ∃ a, x = .ref a ∧ (∃ xs, SqT K H1 a xs) ∧ ForW (Itt K a) g s D σ H1) : tFor (iAny K te) g s D σ H := .inr (.inl q)
theorem rd_forS (q : te σ H fun v H1 => ∃ x, v = .str x ∧ ForW (Its x) g s D σ H1) : tFor (iAny K te) g s D σ H := .inr (.inr q)
theorem rd_forR (q : tA σ H fun vs H1 => ∃ j : Int, vs = [.int j] ∧ -(2 ^ 62) ≤ j ∧ j < 2 ^ 62 ∧ ForW (Itr 0 j.toNat) g s D σ H1) : tFor (iRng1 tA) g s D σ H := q
theorem rd_forR2 (q : tA σ H fun vs H1 => ∃ i j : Int, vs = [.int i, .int j] ∧ (-(2 ^ 62) ≤ i ∧ i < 2 ^ 62 ∧ -(2 ^ 62) ≤ j ∧ j < 2 ^ 62) ∧ ForW (Itr i (j - i).toNat) g s D σ H1) : tFor (iRng2 tA) g s D σ H := q
theorem rd_itL (h : SqL K H a xs) (Pv : Nat → St → Hp → Prop) (h0 : Pv 0 σ H) (hl : ∀ i σ H, i ≤ xs.length → Pv i σ H → SqL K H a xs)
    (hs : ∀ i x σ H, xs[i]? = some x → Pv i σ H → g x σ H fun σ2 H2 => s { D with nx := Pv (i + 1), ct := Pv (i + 1), bk := D.nx } σ2 H2) (hd : ∀ σ H, Pv xs.length σ H → D.nx σ H) :
    ∃ b, V.ref a = .ref b ∧ (∃ xs, SqL K H b xs) ∧ ForW (Itl K b) g s D σ H := ⟨a, rfl, ⟨xs, h⟩, for_list Pv h0 hl hs hd⟩
theorem rd_itT (h : SqT K H a xs) (Pv : Nat → St → Hp → Prop) (h0 : Pv 0 σ H) (hl : ∀ i σ H, i ≤ xs.length → Pv i σ H → SqT K H a xs)
    (hs : ∀ i x σ H, xs[i]? = some x → Pv i σ H → g x σ H fun σ2 H2 => s { D with nx := Pv (i + 1), ct := Pv (i + 1), bk := D.nx } σ2 H2) (hd : ∀ σ H, Pv xs.length σ H → D.nx σ H) :
    ∃ b, V.ref a = .ref b ∧ (∃ xs, SqT K H b xs) ∧ ForW (Itt K b) g s D σ H := ⟨a, rfl, ⟨xs, h⟩, for_tup Pv h0 hl hs hd⟩
theorem rd_itS (Pv : Nat → St → Hp → Prop) (h0 : Pv 0 σ H)
    (hs : ∀ i c σ H, z.cps[i]? = some c → Pv i σ H → g (.str ⟨#[c]⟩) σ H fun σ2 H2 => s { D with nx := Pv (i + 1), ct := Pv (i + 1), bk := D.nx } σ2 H2) (hd : ∀ σ H, Pv z.cps.size σ H → D.nx σ H) :
    ∃ x, V.str z = .str x ∧ ForW (Its x) g s D σ H := by
  refine ⟨z, rfl, for_it walk_str Pv h0 (fun _ _ _ _ _ => trivial) ?_ hd⟩
  rintro i x σ1 H1 H2 hi hP ⟨rfl, c, hc, rfl⟩
  exact hs i c σ1 H2 hc hP
theorem rd_itR {n : Int} (b0 : -(2 ^ 62) ≤ n) (b1 : n < 2 ^ 62) (Pv : Nat → St → Hp → Prop) (h0 : Pv 0 σ H)
    (hs : ∀ (i : Nat) σ H, (i : Int) < n → Pv i σ H → g (.int (i : Int)) σ H fun σ2 H2 => s { D with nx := Pv (i + 1), ct := Pv (i + 1), bk := D.nx } σ2 H2) (hd : ∀ σ H, Pv n.toNat σ H → D.nx σ H) :
    ∃ j : Int, [V.int n] = [.int j] ∧ -(2 ^ 62) ≤ j ∧ j < 2 ^ 62 ∧ ForW (Itr 0 j.toNat) g s D σ H := by
  refine ⟨n, rfl, b0, b1, for_range Pv h0 ?_ hd⟩
  intro i σ1 H1 hi hP
  rw [Int.zero_add]
  exact hs i σ1 H1 (by omega) hP
theorem rd_itR2 {m n : Int} (b : -(2 ^ 62) ≤ m ∧ m < 2 ^ 62 ∧ -(2 ^ 62) ≤ n ∧ n < 2 ^ 62) (Pv : Nat → St → Hp → Prop) (h0 : Pv 0 σ H)
    (hs : ∀ (i : Nat) σ H, m + (i : Int) < n → Pv i σ H → g (.int (m + (i : Int))) σ H fun σ2 H2 => s { D with nx := Pv (i + 1), ct := Pv (i + 1), bk := D.nx } σ2 H2) (hd : ∀ σ H, Pv (n - m).toNat σ H → D.nx σ H) :
    ∃ i j : Int, [V.int m, V.int n] = [.int i, .int j] ∧ (-(2 ^ 62) ≤ i ∧ i < 2 ^ 62 ∧ -(2 ^ 62) ≤ j ∧ j < 2 ^ 62) ∧ ForW (Itr i (j - i).toNat) g s D σ H :=
  ⟨m, n, rfl, b, for_range Pv h0 (fun i σ1 H1 hi hP => hs i σ1 H1 (by omega) hP) hd⟩
theorem rd_forE (q : tA σ H fun vs H1 => ∃ a xs, vs = [.ref a] ∧ SqL K H1 a xs ∧ ForW (Ite K a) g s D σ H1) : tFor (iEnum K tA) g s D σ H := q
theorem rd_forZ (q : tA σ H fun vs H1 => ∃ a b xs ys, vs = [.ref a, .ref b] ∧ SqL K H1 a xs ∧ SqL K H1 b ys ∧ ForW (Itz K a b) g s D σ H1) : tFor (iZip K tA) g s D σ H := q
theorem rd_itE (h : SqL K H a xs) (Pv : Nat → St → Hp → Prop) (h0 : Pv 0 σ H) (hl : ∀ i σ H, i ≤ xs.length → Pv i σ H → SqL K H a xs)
    (hs : ∀ i x T σ H, xs[i]? = some x → Pv i σ H → H T = none → g (.ref T) σ (upd H T (.tup [.int (i : Int), x])) fun σ2 H2 => s { D with nx := Pv (i + 1), ct := Pv (i + 1), bk := D.nx } σ2 H2) (hd : ∀ σ H, Pv xs.length σ H → D.nx σ H) :
    ∃ b ys, [V.ref a] = [.ref b] ∧ SqL K H b ys ∧ ForW (Ite K b) g s D σ H := by
  refine ⟨a, xs, rfl, h, for_it walk_enum Pv h0 hl ?_ hd⟩
  rintro i x σ1 H1 H2 hi hP ⟨T, u, y, rfl, hT, rfl, hu, hy⟩
  cases hu
  exact hs i y T σ1 H1 hy hP hT
theorem rd_itZ {b : Addr} (h : SqL K H a xs) (h' : SqL K H b ys) {n : Nat} (hn : n = min xs.length ys.length) (Pv : Nat → St → Hp → Prop) (h0 : Pv 0 σ H) (hl : ∀ i σ H, i ≤ n → Pv i σ H → SqL K H a xs ∧ SqL K H b ys)
    (hs : ∀ i x y T σ H, xs[i]? = some x → ys[i]? = some y → Pv i σ H → H T = none → g (.ref T) σ (upd H T (.tup [x, y])) fun σ2 H2 => s { D with nx := Pv (i + 1), ct := Pv (i + 1), bk := D.nx } σ2 H2) (hd : ∀ σ H, Pv n σ H → D.nx σ H) :
    ∃ c d us vs, [V.ref a, V.ref b] = [.ref c, .ref d] ∧ SqL K H c us ∧ SqL K H d vs ∧ ForW (Itz K c d) g s D σ H := by
  refine ⟨a, b, xs, ys, rfl, h, h', for_it (walk_zip hn) Pv h0 hl ?_ hd⟩
  rintro i x σ1 H1 H2 hi hP ⟨T, u, y, rfl, hT, rfl, hu, hy⟩
  exact hs i u y T σ1 H1 hu hy hP hT
/-- what stands behind the walked thing in a comprehension's reading -/
def LcW (J : It) (g : TG) (tt : TT) (te : TE) (vs : List Nat) (σ : St) (H1 : Hp) (Q : VK) : Prop := ∀ D, H1 D = none → ∃ W : Nat → Nat → Hp → Prop, (∃ m, W 0 m (upd H1 D (.lst []))) ∧ ∀ i m H, W i m H →
  (J.stop i H ∧ Q (.ref D) H) ∨ (J.go i H ∧ ∃ Nx : Hp → Prop, (∀ H', Nx H' → ∃ m', m' < m ∧ W (i + 1) m' H') ∧ ∀ x H', J.yld i H x H' → g x (wipe σ vs) H' fun σ2 H2 => wipe σ2 vs = wipe σ vs ∧ tt σ2 H2 fun b H3 =>
    if b = true then te σ2 H3 fun y H4 => ∃ acc, H4 D = some (.lst acc) ∧ acc.length < sizeLine ∧ Nx (upd H4 D (.lst (acc ++ [y]))) else Nx H3)
theorem rd_lcL (q : ta σ H fun x H1 => ∃ a, x = .ref a ∧ (∃ xs, SqL K H1 a xs) ∧ LcW (Itl K a) g tt te vs σ H1 Q) : tLc (iAny K ta) g tt te vs σ H Q := .inl q
theorem rd_lcT (q : ta σ H fun x H1 => ∃ a, x = .ref a ∧ (∃ xs, SqT K H1 a xs) ∧ LcW (Itt K a) g tt te vs σ H1 Q) : tLc (iAny K ta) g tt te vs σ H Q := .inr (.inl q)
theorem rd_lcS (q : ta σ H fun x H1 => ∃ z, x = .str z ∧ LcW (Its z) g tt te vs σ H1 Q) : tLc (iAny K ta) g tt te vs σ H Q := .inr (.inr q)
theorem rd_lcR (q : tA σ H fun ws H1 => ∃ j : Int, ws = [.int j] ∧ -(2 ^ 62) ≤ j ∧ j < 2 ^ 62 ∧ LcW (Itr 0 j.toNat) g tt te vs σ H1 Q) : tLc (iRng1 tA) g tt te vs σ H Q := q
theorem rd_lcR2 (q : tA σ H fun ws H1 => ∃ i j : Int, ws = [.int i, .int j] ∧ (-(2 ^ 62) ≤ i ∧ i < 2 ^ 62 ∧ -(2 ^ 62) ≤ j ∧ j < 2 ^ 62) ∧ LcW (Itr i (j - i).toNat) g tt te vs σ H1 Q) : tLc (iRng2 tA) g tt te vs σ H Q := q
/-- one turn of a comprehension: the target, the test, the element, the list grown at D -/
def LcT (g : TG) (tt : TT) (te : TE) (vs : List Nat) (σ : St) (D : Addr) (N : Hp → Prop) (x : V) (H : Hp) : Prop :=
  g x (wipe σ vs) H fun σ2 H2 => wipe σ2 vs = wipe σ vs ∧ tt σ2 H2 fun b H3 => if b = true then te σ2 H3 fun y H4 => ∃ acc, H4 D = some (.lst acc) ∧ acc.length < sizeLine ∧ N (upd H4 D (.lst (acc ++ [y]))) else N H3
theorem rd_lcT1 {D : Addr} {N : Hp → Prop} (q : g x (wipe σ vs) H fun σ2 H2 => wipe σ2 vs = wipe σ vs ∧ tt σ2 H2 fun b H3 => if b = true then te σ2 H3 fun y H4 => ∃ acc, H4 D = some (.lst acc) ∧ acc.length < sizeLine ∧ N (upd H4 D (.lst (acc ++ [y]))) else N H3) :
    LcT g tt te vs σ D N x H := q
/-- what holds between two turns: what stands stays by R, the list at D is what A says -/
theorem lc_by {J : It} {n : Nat} {G : Hp → Prop} {Y : Nat → Hp → V → Hp → Prop} (w : Walk J n G Y) (Pv : Addr → Nat → Hp → Prop) (h0 : ∀ D, H D = none → Pv D 0 (upd H D (.lst []))) (hG : ∀ D i H', H D = none → i ≤ n → Pv D i H' → G H')
    (hs : ∀ D i x H1 H2, H D = none → i < n → Pv D i H1 → Y i H1 x H2 → LcT g tt te vs σ D (Pv D (i + 1)) x H2) (hd : ∀ D H', H D = none → Pv D n H' → Q (.ref D) H') : LcW J g tt te vs σ H Q := by
  intro D hD
  exact lc_it w (Pv D) (h0 D hD) (fun i H' hi hP => hG D i H' hD hi hP) (fun i x H1 H2 hi hP hY => hs D i x H1 H2 hD hi hP hY) fun H' hP => hd D H' hD hP
theorem rd_clL (h : SqL K H a xs) (Pv : Addr → Nat → Hp → Prop) (h0 : ∀ D, H D = none → Pv D 0 (upd H D (.lst []))) (hG : ∀ D i H', H D = none → i ≤ xs.length → Pv D i H' → SqL K H' a xs)
    (hs : ∀ D i x H', H D = none → xs[i]? = some x → Pv D i H' → LcT g tt te vs σ D (Pv D (i + 1)) x H') (hd : ∀ D H', H D = none → Pv D xs.length H' → Q (.ref D) H') :
    ∃ b, V.ref a = .ref b ∧ (∃ xs, SqL K H b xs) ∧ LcW (Itl K b) g tt te vs σ H Q := by
  refine ⟨a, rfl, ⟨xs, h⟩, lc_by walk_list Pv h0 hG ?_ hd⟩
  rintro D i x H1 H2 hD hi hP ⟨rfl, hx⟩
  exact hs D i x H2 hD hx hP
theorem rd_clT (h : SqT K H a xs) (Pv : Addr → Nat → Hp → Prop) (h0 : ∀ D, H D = none → Pv D 0 (upd H D (.lst []))) (hG : ∀ D i H', H D = none → i ≤ xs.length → Pv D i H' → SqT K H' a xs)
    (hs : ∀ D i x H', H D = none → xs[i]? = some x → Pv D i H' → LcT g tt te vs σ D (Pv D (i + 1)) x H') (hd : ∀ D H', H D = none → Pv D xs.length H' → Q (.ref D) H') :
    ∃ b, V.ref a = .ref b ∧ (∃ xs, SqT K H b xs) ∧ LcW (Itt K b) g tt te vs σ H Q := by
  refine ⟨a, rfl, ⟨xs, h⟩, lc_by walk_tup Pv h0 hG ?_ hd⟩
  rintro D i x H1 H2 hD hi hP ⟨rfl, hx⟩
  exact hs D i x H2 hD hx hP
/-! dict comprehensions over a list -/
def DcT (g : TG) (tt : TT) (tk tv : TE) (vs : List Nat) (σ : St) (D : Addr) (N : Hp → Prop) (x : V) (H : Hp) : Prop :=
  g x (wipe σ vs) H fun σ2 H2 => wipe σ2 vs = wipe σ vs ∧ tt σ2 H2 fun b H3 => if b = true then tk σ2 H3 fun y H4 => tv σ2 H4 fun z H5 => ∃ kvs k, y = kV k ∧ H5 D = some (.dK kvs) ∧ kvs.length < sizeLine ∧ N (upd H5 D (.dK (putK kvs k z))) else N H3
theorem rd_dcT1 {tk tv : TE} {D : Addr} {N : Hp → Prop} (q : g x (wipe σ vs) H fun σ2 H2 => wipe σ2 vs = wipe σ vs ∧ tt σ2 H2 fun b H3 => if b = true then tk σ2 H3 fun y H4 => tv σ2 H4 fun z H5 => ∃ kvs k, y = kV k ∧ H5 D = some (.dK kvs) ∧ kvs.length < sizeLine ∧ N (upd H5 D (.dK (putK kvs k z))) else N H3) :
    DcT g tt tk tv vs σ D N x H := q
def DcW (J : It) (g : TG) (tt : TT) (tk tv : TE) (vs : List Nat) (σ : St) (H1 : Hp) (Q : VK) : Prop := ∀ D, H1 D = none → ∃ W : Nat → Nat → Hp → Prop, (∃ m, W 0 m (upd H1 D (.dK []))) ∧ ∀ i m H, W i m H →
  (J.stop i H ∧ Q (.ref D) H) ∨ (J.go i H ∧ ∃ Nx : Hp → Prop, (∀ H', Nx H' → ∃ m', m' < m ∧ W (i + 1) m' H') ∧ ∀ x H', J.yld i H x H' → DcT g tt tk tv vs σ D Nx x H')
theorem rd_dcL {tk tv : TE} (q : ta σ H fun x H1 => ∃ a, x = .ref a ∧ (∃ xs, SqL K H1 a xs) ∧ DcW (Itl K a) g tt tk tv vs σ H1 Q) : tDc (iAny K ta) g tt tk tv vs σ H Q := .inl q
theorem rd_ddL {tk tv : TE} (h : SqL K H a xs) (Pv : Addr → Nat → Hp → Prop) (h0 : ∀ D, H D = none → Pv D 0 (upd H D (.dK []))) (hG : ∀ D i H', H D = none → i ≤ xs.length → Pv D i H' → SqL K H' a xs)
    (hs : ∀ D i x H', H D = none → xs[i]? = some x → Pv D i H' → DcT g tt tk tv vs σ D (Pv D (i + 1)) x H') (hd : ∀ D H', H D = none → Pv D xs.length H' → Q (.ref D) H') :
    ∃ b, V.ref a = .ref b ∧ (∃ xs, SqL K H b xs) ∧ DcW (Itl K b) g tt tk tv vs σ H Q := by
  refine ⟨a, rfl, ⟨xs, h⟩, fun D hD => ⟨fun i m H' => m = xs.length - i ∧ i ≤ xs.length ∧ Pv D i H', ⟨xs.length, by simp, Nat.zero_le _, h0 D hD⟩, ?_⟩⟩
  rintro i m H' ⟨rfl, hi, p⟩
  have q := hG D i H' hD hi p
  have w := walk_list (K := K) (a := a) (xs := xs)
  by_cases hlt : i < xs.length
  · refine .inr ⟨w.goes i H' hlt q, Pv D (i + 1), fun H2 p' => ⟨xs.length - (i + 1), by omega, rfl, hlt, p'⟩, fun x H2 y => ?_⟩
    obtain ⟨e, hx⟩ := w.yields i H' x H2 hlt q y
    subst e
    exact hs D i x _ hD hx p
  · have e : i = xs.length := by omega
    subst e
    exact .inl ⟨w.stops H' q, hd D H' hD p⟩
theorem rd_lcE (q : tA σ H fun ws H1 => ∃ a xs, ws = [.ref a] ∧ SqL K H1 a xs ∧ LcW (Ite K a) g tt te vs σ H1 Q) : tLc (iEnum K tA) g tt te vs σ H Q := q
theorem rd_lcZ (q : tA σ H fun ws H1 => ∃ a b xs ys, ws = [.ref a, .ref b] ∧ SqL K H1 a xs ∧ SqL K H1 b ys ∧ LcW (Itz K a b) g tt te vs σ H1 Q) : tLc (iZip K tA) g tt te vs σ H Q := q
theorem rd_clE (h : SqL K H a xs) (Pv : Addr → Nat → Hp → Prop) (h0 : ∀ D, H D = none → Pv D 0 (upd H D (.lst []))) (hG : ∀ D i H', H D = none → i ≤ xs.length → Pv D i H' → SqL K H' a xs)
    (hs : ∀ D i x T H', H D = none → xs[i]? = some x → Pv D i H' → H' T = none → LcT g tt te vs σ D (Pv D (i + 1)) (.ref T) (upd H' T (.tup [.int (i : Int), x]))) (hd : ∀ D H', H D = none → Pv D xs.length H' → Q (.ref D) H') :
    ∃ b ys, [V.ref a] = [.ref b] ∧ SqL K H b ys ∧ LcW (Ite K b) g tt te vs σ H Q := by
  refine ⟨a, xs, rfl, h, lc_by walk_enum Pv h0 hG ?_ hd⟩
  rintro D i x H1 H2 hD hi hP ⟨T, u, y, rfl, hT, rfl, hu, hy⟩
  cases hu
  exact hs D i y T H1 hD hy hP hT
theorem rd_clZ {b : Addr} (h : SqL K H a xs) (h' : SqL K H b ys) {n : Nat} (hn : n = min xs.length ys.length) (Pv : Addr → Nat → Hp → Prop) (h0 : ∀ D, H D = none → Pv D 0 (upd H D (.lst []))) (hG : ∀ D i H', H D = none → i ≤ n → Pv D i H' → SqL K H' a xs ∧ SqL K H' b ys)
    (hs : ∀ D i x y T H', H D = none → xs[i]? = some x → ys[i]? = some y → Pv D i H' → H' T = none → LcT g tt te vs σ D (Pv D (i + 1)) (.ref T) (upd H' T (.tup [x, y]))) (hd : ∀ D H', H D = none → Pv D n H' → Q (.ref D) H') :
    ∃ c d us ws, [V.ref a, V.ref b] = [.ref c, .ref d] ∧ SqL K H c us ∧ SqL K H d ws ∧ LcW (Itz K c d) g tt te vs σ H Q := by
  refine ⟨a, b, xs, ys, rfl, h, h', lc_by (walk_zip hn) Pv h0 hG ?_ hd⟩
  rintro D i x H1 H2 hD hi hP ⟨T, u, y, rfl, hT, rfl, hu, hy⟩
  exact hs D i u y T H1 hD hu hy hP hT
theorem rd_clS (Pv : Addr → Nat → Hp → Prop) (h0 : ∀ D, H D = none → Pv D 0 (upd H D (.lst [])))
    (hs : ∀ D i c H', H D = none → z.cps[i]? = some c → Pv D i H' → LcT g tt te vs σ D (Pv D (i + 1)) (.str ⟨#[c]⟩) H') (hd : ∀ D H', H D = none → Pv D z.cps.size H' → Q (.ref D) H') :
    ∃ y, V.str z = .str y ∧ LcW (Its y) g tt te vs σ H Q := by
  refine ⟨z, rfl, lc_by walk_str Pv h0 (fun _ _ _ _ _ _ => trivial) ?_ hd⟩
  rintro D i x H1 H2 hD hi hP ⟨rfl, c, hc, rfl⟩
  exact hs D i c H2 hD hc hP
theorem rd_clR {n : Int} (b0 : -(2 ^ 62) ≤ n) (b1 : n < 2 ^ 62) (Pv : Addr → Nat → Hp → Prop) (h0 : ∀ D, H D = none → Pv D 0 (upd H D (.lst [])))
    (hs : ∀ D (i : Nat) H', H D = none → (i : Int) < n → Pv D i H' → LcT g tt te vs σ D (Pv D (i + 1)) (.int (i : Int)) H') (hd : ∀ D H', H D = none → Pv D n.toNat H' → Q (.ref D) H') :
    ∃ j : Int, [V.int n] = [.int j] ∧ -(2 ^ 62) ≤ j ∧ j < 2 ^ 62 ∧ LcW (Itr 0 j.toNat) g tt te vs σ H Q := by
  refine ⟨n, rfl, b0, b1, lc_by walk_range Pv h0 (fun _ _ _ _ _ _ => trivial) ?_ hd⟩
  rintro D i x H1 H2 hD hi hP ⟨rfl, rfl⟩
  show LcT g tt te vs σ D (Pv D (i + 1)) (V.int (0 + (i : Int))) H2
  rw [Int.zero_add]
  exact hs D i H2 hD (by omega) hP
theorem rd_clR2 {m n : Int} (b : -(2 ^ 62) ≤ m ∧ m < 2 ^ 62 ∧ -(2 ^ 62) ≤ n ∧ n < 2 ^ 62) (Pv : Addr → Nat → Hp → Prop) (h0 : ∀ D, H D = none → Pv D 0 (upd H D (.lst [])))
    (hs : ∀ D (i : Nat) H', H D = none → m + (i : Int) < n → Pv D i H' → LcT g tt te vs σ D (Pv D (i + 1)) (.int (m + (i : Int))) H') (hd : ∀ D H', H D = none → Pv D (n - m).toNat H' → Q (.ref D) H') :
    ∃ i j : Int, [V.int m, V.int n] = [.int i, .int j] ∧ (-(2 ^ 62) ≤ i ∧ i < 2 ^ 62 ∧ -(2 ^ 62) ≤ j ∧ j < 2 ^ 62) ∧ LcW (Itr i (j - i).toNat) g tt te vs σ H Q := by
  refine ⟨m, n, rfl, b, lc_by walk_range Pv h0 (fun _ _ _ _ _ _ => trivial) ?_ hd⟩
  rintro D i x H1 H2 hD hi hP ⟨rfl, rfl⟩
  exact hs D i H2 hD (by omega) hP
end
end Mine

/-! ## Texts and drawn things -/
namespace Mine
open PySem PySem.Spec PyProof.Rows L2
open TL (tl spl pre spl_nil spl_hit spl_miss split_spl)
set_option linter.all false
theorem len_tl (z : Str) : (tl z).length = z.length := by
  show z.cps.toList.length = z.cps.size
  simp
theorem str_ext {a b : Str} (h : tl a = tl b) : a = b := by
  obtain ⟨⟨a⟩⟩ := a
  obtain ⟨⟨b⟩⟩ := b
  have h' : a = b := h
  rw [h']
theorem tl_app (a b : Str) : tl (a ++ b) = tl a ++ tl b := by
  show (a ++ b).cps.toList = _
  rw [show (a ++ b).cps = a.cps ++ b.cps from rfl, Array.toList_append]
theorem len_app (a b : Str) : (a ++ b).length = a.length + b.length := by rw [← len_tl, tl_app, List.length_append, len_tl, len_tl]
theorem tl_cut (z : Str) (lo hi : Option Int) : tl (cutS z lo hi) = ((tl z).drop (HT.sIx z.length 0 lo)).take (HT.sIx z.length z.length hi - HT.sIx z.length 0 lo) := by
  show (cutS z lo hi).cps.toList = _
  unfold cutS
  simp
theorem tl_take (z : Str) (k : Nat) : tl (cutS z none (some (k : Int))) = (tl z).take k := by
  rw [tl_cut, HT.sIx_none, List.drop_zero, Nat.sub_zero, HT.sIx_nat]
  by_cases h : k ≤ z.length
  · rw [Nat.min_eq_left h]
  · rw [Nat.min_eq_right (by omega), List.take_of_length_le (by rw [len_tl]; exact Nat.le_refl _), List.take_of_length_le (by rw [len_tl]; omega)]
theorem tl_drop (z : Str) (k : Nat) : tl (cutS z (some (k : Int)) none) = (tl z).drop k := by
  rw [tl_cut, HT.sIx_none, HT.sIx_nat]
  by_cases h : k ≤ z.length
  · rw [Nat.min_eq_left h, List.take_of_length_le (by rw [List.length_drop, len_tl]; exact Nat.le_refl _)]
  · rw [Nat.min_eq_right (by omega), List.drop_of_length_le (by rw [len_tl]; exact Nat.le_refl _), List.take_nil, List.drop_of_length_le (by rw [len_tl]; omega)]
theorem cut_take {z : Str} {i : Int} (h0 : 0 ≤ i) : (cutS z none (some i)).length = min i.toNat z.length := by
  obtain ⟨k, rfl⟩ : ∃ k : Nat, i = (k : Int) := ⟨i.toNat, by omega⟩
  rw [← len_tl, tl_take, List.length_take, len_tl]
  rfl
theorem cut_drop {z : Str} {i : Int} (h0 : 0 ≤ i) : (cutS z (some i) none).length = z.length - i.toNat := by
  obtain ⟨k, rfl⟩ : ∃ k : Nat, i = (k : Int) := ⟨i.toNat, by omega⟩
  rw [← len_tl, tl_drop, List.length_drop, len_tl]
  rfl
/-- a text of at most so many signs -/
def strLe (L : Nat) : V → Bool
  | .str z => decide (z.length ≤ L)
  | _ => false
theorem strLe_str {L : Nat} {x : V} (h : strLe L x = true) : ∃ z, x = .str z ∧ z.length ≤ L := by
  cases x with
  | str z => exact ⟨z, rfl, of_decide_eq_true h⟩
  | _ => cases h
theorem atI_mem {xs : List V} {v : Int} (h0 : 0 ≤ v) (h1 : v < xs.length) : ∃ x, x ∈ xs ∧ atI xs v = some x := by
  obtain ⟨j, rfl⟩ : ∃ j : Nat, v = (j : Int) := ⟨v.toNat, by omega⟩
  have hj : j < xs.length := by omega
  exact ⟨xs[j], List.getElem_mem hj, atI_nat (List.getElem?_eq_getElem hj)⟩
/-- an item of a list, whichever -/
theorem pick {K : PySem.W.Frag} {p : Addr} {xs : List V} {v : Int} {H : Hp} {Q : VK} (h : SqL K H p xs) (h0 : 0 ≤ v) (h1 : v < xs.length) (q : ∀ x, x ∈ xs → Q x H) : xIx K (.ref p) (.int v) H Q := by
  obtain ⟨x, hx, e⟩ := atI_mem h0 h1
  exact rd_ixL h e (q x hx)
theorem pickT {K : PySem.W.Frag} {p : Addr} {xs : List V} {v : Int} {H : Hp} {Q : VK} (h : SqT K H p xs) (h0 : 0 ≤ v) (h1 : v < xs.length) (q : ∀ x, x ∈ xs → Q x H) : xIx K (.ref p) (.int v) H Q := by
  obtain ⟨x, hx, e⟩ := atI_mem h0 h1
  exact rd_ixT h e (q x hx)
theorem pickS {K : PySem.W.Frag} {p : Addr} {xs : List V} {v : Int} {H : Hp} {Q : VK} (L : Nat) (h : SqL K H p xs) (h0 : 0 ≤ v) (h1 : v < xs.length) (hL : xs.all (strLe L) = true) (q : ∀ z, z.length ≤ L → Q (.str z) H) : xIx K (.ref p) (.int v) H Q := by
  refine pick h h0 h1 fun x hx => ?_
  obtain ⟨z, rfl, hz⟩ := strLe_str (List.all_eq_true.mp hL x hx)
  exact q z hz
theorem join_le (sep : Str) (ys : List Str) (L : Nat) (h : ∀ y ∈ ys, y.length ≤ L) : (ys.map (·.length)).sum ≤ ys.length * L := by
  induction ys with
  | nil => exact Nat.zero_le _
  | cons y ys ih =>
    have h1 := h y List.mem_cons_self
    have h2 := ih fun z hz => h z (List.mem_cons_of_mem _ hz)
    rw [List.map_cons, List.sum_cons, List.length_cons, Nat.add_mul, Nat.one_mul]
    omega
theorem len_join (sep : Str) (ys : List Str) : (Txt.join sep ys).length ≤ (ys.map (·.length)).sum + ys.length * sep.length := by
  show (Builtin.Str.glued sep ys).length ≤ _
  rw [StrLaws.glued_eq_join]
  exact StrLaws.join_length_le sep ys
theorem spl_len {S : List Nat} : ∀ (l : List Nat) (k : Nat) (acc : List Nat), (∀ p ∈ spl S k acc l, p.length ≤ acc.length + l.length) ∧ (spl S k acc l).length ≤ l.length + 1
  | [], k, acc => by
    rw [spl_nil]
    exact ⟨fun p hp => by rw [List.mem_singleton.mp hp]; exact Nat.le_add_right _ _, Nat.le_refl _⟩
  | c :: r, 0, acc => by
    cases h : pre S (c :: r) with
    | true =>
      rw [spl_hit h]
      obtain ⟨h1, h2⟩ := spl_len (S := S) r (S.length - 1) []
      refine ⟨fun p hp => ?_, by rw [List.length_cons, List.length_cons]; omega⟩
      rcases List.mem_cons.mp hp with rfl | hp
      · exact Nat.le_add_right _ _
      · have := h1 p hp
        rw [List.length_nil] at this
        rw [List.length_cons]
        omega
    | false =>
      rw [spl_miss h]
      obtain ⟨h1, h2⟩ := spl_len (S := S) r 0 (acc ++ [c])
      refine ⟨fun p hp => ?_, by rw [List.length_cons]; omega⟩
      have := h1 p hp
      rw [List.length_append, List.length_singleton] at this
      rw [List.length_cons]
      omega
  | c :: r, k + 1, acc => by
    show (∀ p ∈ spl S k acc r, _) ∧ (spl S k acc r).length ≤ _
    obtain ⟨h1, h2⟩ := spl_len (S := S) r k acc
    refine ⟨fun p hp => ?_, by rw [List.length_cons]; omega⟩
    have := h1 p hp
    rw [List.length_cons]
    omega
/-- the parts of a text, the sign between them below 256 -/
theorem split_len {z y : Str} (hy : tl y ≠ []) (hk : y.cps.all (· < 256) = true) : (∀ w ∈ Txt.split z y, w.length ≤ z.length) ∧ (Txt.split z y).length ≤ z.length + 1 := by
  have k1 : Builtin.Str.strKind y = 1 := by
    unfold Builtin.Str.strKind
    rw [if_pos hk]
  have k2 : ¬ Builtin.Str.strKind z < Builtin.Str.strKind y := by
    rw [k1]
    unfold Builtin.Str.strKind
    split
    · omega
    · split <;> omega
  have e := split_spl z y hy k2
  obtain ⟨h1, h2⟩ := spl_len (S := tl y) (tl z) 0 []
  rw [← e] at h1 h2
  constructor
  · intro w hw
    have := h1 (tl w) (List.mem_map_of_mem hw)
    rw [List.length_nil, Nat.zero_add, len_tl, len_tl] at this
    exact this
  · rw [List.length_map, len_tl] at h2
    exact h2
theorem szOk {n : Nat} (h : n ≤ 1000000) : n ≤ sizeLine := Nat.le_trans h (by decide)
theorem szLt {n : Nat} (h : n ≤ 1000000) : n < sizeLine := Nat.lt_of_le_of_lt h (by decide)
/-- bools shown in a list -/
def bools (bs : List Bool) : PyData := .list (bs.map .bool)
theorem dp_bools {K : PySem.W.Frag} {H : Hp} : ∀ bs : List Bool, DpAll K H (bs.map V.bl) (bs.map .bool)
  | [] => .nil
  | b :: bs => .cons (.bl b) (dp_bools bs)
theorem _root_.L2.Same.new {H H' : Hp} {p : Addr} {o : HO} (a : Same H H') (h : H' p = none) : Same H (upd H' p o) := fun c u e => by
  rw [upd_ne (ne_of_none (a c u e) h)]
  exact a c u e
theorem _root_.L2.Same.put {H H' : Hp} {p : Addr} {o : HO} (a : Same H H') (h : H p = none) : Same H (upd H' p o) := fun c u e => by
  rw [upd_ne (ne_of_none e h)]
  exact a c u e
theorem _root_.L2.Same.there {H H' : Hp} {p : Addr} {o : HO} (k : Same (upd H p o) H') : H' p = some o := k p _ upd_same
theorem sm_tup {K : PySem.W.Frag} {H H' : Hp} {a : Addr} {xs : List V} (e : Same H H') (h : SqT K H a xs) : SqT K H' a xs := by
  rcases h with (h | ⟨o, h⟩) | h
  · exact .inl (.inl (e _ _ h))
  · exact .inl (.inr ⟨o, e _ _ h⟩)
  · exact .inr h
/-! ### comprehensions that change nothing: [f x for x in .. if p x] -/
section
variable {K : PySem.W.Frag} {J : It} {xs : List V} {G : Hp → Prop} {tt : TT} {te : TE} {vs : List Nat} {σ : St} {H : Hp} {Q : VK} {j : Nat} {a : Addr} {z : Str}
/-- reads and makes new things alone: b at the end -/
def Pt (t : TT) (σ : St) (H : Hp) (b : Bool) : Prop := ∀ H1, Same H H1 → ∀ QE : Bool → Hp → Prop, (∀ H2, Same H1 H2 → QE b H2) → t σ H1 QE
def Pe (t : TE) (σ : St) (H : Hp) (v : V) : Prop := ∀ H1, Same H H1 → ∀ QE : VK, (∀ H2, Same H1 H2 → QE v H2) → t σ H1 QE
theorem pt_yes : Pt tYes σ H true := fun H1 _ QE q => q H1 (Same.refl H1)
theorem lc_pure (w : Walk J xs.length G (YAt xs)) (hG : ∀ H', Same H H' → G H') (p : V → Bool) (f : V → V) (hw : ∀ x, wipe ((wipe σ vs).set j (some x)) vs = wipe σ vs) (hl : xs.length ≤ 1000000)
    (ht : ∀ x, x ∈ xs → Pt tt ((wipe σ vs).set j (some x)) H (p x)) (he : ∀ x, x ∈ xs → p x = true → Pe te ((wipe σ vs).set j (some x)) H (f x))
    (hd : ∀ D H', H D = none → Same H H' → H' D = some (.lst ((xs.filter p).map f)) → Q (.ref D) H') : LcW J (gName j) tt te vs σ H Q := by
  refine lc_by w (fun D i H' => Same H H' ∧ H' D = some (.lst (((xs.take i).filter p).map f))) (fun D hD => ⟨(Same.refl H).new hD, upd_same⟩) (fun D i H' _ _ h => hG H' h.1) ?_ (fun D H' hD h => hd D H' hD h.1 (by have := h.2; rwa [List.take_length] at this))
  rintro D i x H1 H2 hD hi ⟨hS, hD1⟩ ⟨rfl, hx⟩
  have mem : x ∈ xs := List.mem_of_getElem? hx
  have grow : xs.take (i + 1) = xs.take i ++ [x] := by rw [List.take_add_one, hx]; rfl
  refine ⟨hw x, ht x mem H2 hS _ fun H3 s3 => ?_⟩
  cases hp : p x with
  | true =>
    refine rd_yT (he x mem hp H3 (hS.trans s3) _ fun H4 s4 => ?_)
    refine ⟨_, s4 _ _ (s3 _ _ hD1), szLt ?_, ((hS.trans s3).trans s4).put hD, ?_⟩
    · rw [List.length_map]
      have h1 := List.length_filter_le p (xs.take i)
      rw [List.length_take] at h1
      omega
    · rw [upd_same, grow, List.filter_append, List.map_append]
      simp [hp]
  | false =>
    refine rd_nF ⟨hS.trans s3, ?_⟩
    rw [s3 _ _ hD1, grow, List.filter_append]
    simp [hp]
theorem rd_mapL (h : SqL K H a xs) (p : V → Bool) (f : V → V) (hw : ∀ x, wipe ((wipe σ vs).set j (some x)) vs = wipe σ vs) (hl : xs.length ≤ 1000000)
    (ht : ∀ x, x ∈ xs → Pt tt ((wipe σ vs).set j (some x)) H (p x)) (he : ∀ x, x ∈ xs → p x = true → Pe te ((wipe σ vs).set j (some x)) H (f x))
    (hd : ∀ D H', H D = none → Same H H' → H' D = some (.lst ((xs.filter p).map f)) → Q (.ref D) H') : ∃ b, V.ref a = .ref b ∧ (∃ xs, SqL K H b xs) ∧ LcW (Itl K b) (gName j) tt te vs σ H Q :=
  ⟨a, rfl, ⟨xs, h⟩, lc_pure walk_list (fun H' e => e.seq h) p f hw hl ht he hd⟩
theorem rd_mapT (h : SqT K H a xs) (p : V → Bool) (f : V → V) (hw : ∀ x, wipe ((wipe σ vs).set j (some x)) vs = wipe σ vs) (hl : xs.length ≤ 1000000)
    (ht : ∀ x, x ∈ xs → Pt tt ((wipe σ vs).set j (some x)) H (p x)) (he : ∀ x, x ∈ xs → p x = true → Pe te ((wipe σ vs).set j (some x)) H (f x))
    (hd : ∀ D H', H D = none → Same H H' → H' D = some (.lst ((xs.filter p).map f)) → Q (.ref D) H') : ∃ b, V.ref a = .ref b ∧ (∃ xs, SqT K H b xs) ∧ LcW (Itt K b) (gName j) tt te vs σ H Q :=
  ⟨a, rfl, ⟨xs, h⟩, lc_pure walk_tup (fun H' e => sm_tup e h) p f hw hl ht he hd⟩
/-- the signs of a text, each as a text -/
def signs (z : Str) : List V := z.cps.toList.map fun c => .str ⟨#[c]⟩
theorem walk_signs : Walk (Its z) (signs z).length (fun _ => True) (YAt (signs z)) := by
  have e : (signs z).length = z.cps.size := by unfold signs; simp
  rw [e]
  refine walk_str.mono (fun _ h => h) ?_
  rintro i H1 x H2 hi _ ⟨rfl, c, hc, rfl⟩
  refine ⟨rfl, ?_⟩
  unfold signs
  rw [List.getElem?_map, Array.getElem?_toList, hc]
  rfl
theorem rd_mapS (p : V → Bool) (f : V → V) (hw : ∀ x, wipe ((wipe σ vs).set j (some x)) vs = wipe σ vs) (hl : z.length ≤ 1000000)
    (ht : ∀ x, x ∈ signs z → Pt tt ((wipe σ vs).set j (some x)) H (p x)) (he : ∀ x, x ∈ signs z → p x = true → Pe te ((wipe σ vs).set j (some x)) H (f x))
    (hd : ∀ D H', H D = none → Same H H' → H' D = some (.lst (((signs z).filter p).map f)) → Q (.ref D) H') : ∃ y, V.str z = .str y ∧ LcW (Its y) (gName j) tt te vs σ H Q :=
  ⟨z, rfl, lc_pure walk_signs (fun _ _ => trivial) p f hw (by unfold signs; rw [List.length_map]; simpa [Str.length] using hl) ht he hd⟩
end
/-- a value's type stays while what is tracked stays -/
theorem tyx_same {K : PySem.W.Frag} {H H' : Hp} {v : V} {t : Value} (e : Same H H') (h : TyX K H v t) : TyX K H' v t := by
  cases h with
  | base b =>
    refine .base ?_
    cases b with
    | non => exact .non
    | bl x => exact .bl x
    | int i => exact .int i
    | str x => exact .str x
    | flt x => exact .flt x
    | lst h => exact .lst (e _ _ h)
    | frz h => exact .frz (e _ _ h)
    | tup h => exact .tup (e _ _ h)
    | dK h => exact .dK (e _ _ h)
    | dT h => exact .dT (e _ _ h)
    | ins h c1 c2 c3 c4 c5 => exact .ins (e _ _ h) c1 c2 c3 c4 c5
  | byt b => exact .byt b
  | set h => exact .set (e _ _ h)
  | kList h c => exact .kList h c
  | kTuple h c => exact .kTuple h c
  | kDict h c => exact .kDict h c
  | fTuple h => exact .fTuple (e _ _ h)
  | fDict h => exact .fDict (e _ _ h)
theorem shows_2 (b : Bool) : Shows (.list [.bool b, .bool b]) := by
  cases b <;> exact ⟨by decide +kernel, by decide +kernel, by decide +kernel, by decide +kernel⟩
/-! ### signs, parts of a text -/
theorem tl_mid (z : Str) (i j : Nat) (h : i ≤ j) : tl (cutS z (some (i : Int)) (some (j : Int))) = ((tl z).drop i).take (j - i) := by
  rw [tl_cut, HT.sIx_nat, HT.sIx_nat]
  have e := len_tl z
  by_cases h1 : i ≤ z.length
  · rw [Nat.min_eq_left h1]
    by_cases h2 : j ≤ z.length
    · rw [Nat.min_eq_left h2]
    · rw [Nat.min_eq_right (by omega), List.take_of_length_le (by rw [List.length_drop, e]; exact Nat.le_refl _), List.take_of_length_le (by rw [List.length_drop, e]; omega)]
  · rw [Nat.min_eq_right (by omega), Nat.min_eq_right (by omega), List.drop_of_length_le (by rw [e]; exact Nat.le_refl _), List.drop_of_length_le (by rw [e]; omega), List.take_nil, List.take_nil]
theorem tl_inj {a b : Str} : a = b ↔ tl a = tl b := ⟨fun h => h ▸ rfl, str_ext⟩
theorem dec_tl (a b : Str) : decide (a = b) = decide (tl a = tl b) := decide_eq_decide.mpr tl_inj
theorem tl_sg (c : Nat) : tl (⟨#[c]⟩ : Str) = [c] := rfl
theorem drop_ne {l : List Nat} {k c : Nat} {r : List Nat} (h : l.drop k = c :: r) : l[k]? = some c ∧ k < l.length ∧ l.drop (k + 1) = r := by
  have h1 : (l.drop k)[0]? = some c := by rw [h]; rfl
  rw [List.getElem?_drop, Nat.add_zero] at h1
  refine ⟨h1, (List.getElem?_eq_some_iff.mp h1).1, ?_⟩
  rw [← List.drop_drop, h]
  rfl
/-- the first c in a row of signs: what stands before it, what behind -/
def cutAt (c : Nat) : List Nat → Option (List Nat × List Nat)
  | [] => none
  | x :: r => if x = c then some ([], r) else (cutAt c r).map fun p => (x :: p.1, p.2)
theorem cutAt_none {c : Nat} : ∀ {l : List Nat}, cutAt c l = none → c ∉ l
  | [], _ => List.not_mem_nil
  | x :: r, h => by
    unfold cutAt at h
    by_cases e : x = c
    · rw [if_pos e] at h; cases h
    · rw [if_neg e, Option.map_eq_none_iff] at h
      rw [List.mem_cons]
      rintro (q | q)
      · exact e q.symm
      · exact cutAt_none h q
theorem cutAt_some {c : Nat} : ∀ {l b t : List Nat}, cutAt c l = some (b, t) → l = b ++ c :: t ∧ c ∉ b
  | [], _, _, h => by cases h
  | x :: r, b, t, h => by
    unfold cutAt at h
    by_cases e : x = c
    · rw [if_pos e] at h
      cases h
      exact ⟨by rw [e]; rfl, List.not_mem_nil⟩
    · rw [if_neg e] at h
      obtain ⟨⟨b', t'⟩, h1, h2⟩ := Option.map_eq_some_iff.mp h
      cases h2
      obtain ⟨h3, h4⟩ := cutAt_some h1
      refine ⟨by rw [h3]; rfl, ?_⟩
      rw [List.mem_cons]
      rintro (q | q)
      · exact e q.symm
      · exact h4 q
theorem from_nat {n i : Nat} : fromIndex n (i : Int) = i := by
  unfold fromIndex
  rw [if_neg (by omega)]
  omega
theorem getD_tl {z : Str} {v c : Nat} (hv : v < z.length) : z.cps.getD v 0 = c ↔ (tl z)[v]? = some c := ⟨StrLaws.getElem?_of_getD hv, StrLaws.getD_of_getElem?⟩
/-- find of one sign, from a place on -/
theorem find_cut (z : Str) (c i : Nat) : Txt.find3 z ⟨#[c]⟩ (i : Int) = (match cutAt c ((tl z).drop i) with | none => -1 | some (b, _) => ((i + b.length : Nat) : Int)) := by
  have sp := StrLaws.find3_spec z c (i : Int)
  rw [from_nat] at sp
  cases e : cutAt c ((tl z).drop i) with
  | none =>
    rcases sp with ⟨h, _⟩ | ⟨k, h, h1, h2, h3, _⟩
    · exact h
    · refine absurd ?_ (cutAt_none e)
      refine List.mem_of_getElem? (i := k - i) ?_
      rw [List.getElem?_drop, show i + (k - i) = k by omega]
      exact (getD_tl h2).mp h3
  | some p =>
    obtain ⟨b, t⟩ := p
    obtain ⟨h5, h6⟩ := cutAt_some e
    have at_ : (tl z)[i + b.length]? = some c := by
      rw [← List.getElem?_drop, h5, List.getElem?_append_right (Nat.le_refl _), Nat.sub_self]
      rfl
    have lt := (List.getElem?_eq_some_iff.mp at_).1
    rw [len_tl] at lt
    rcases sp with ⟨_, h⟩ | ⟨k, h, h1, h2, h3, h4⟩
    · exact absurd ((getD_tl lt).mpr at_) (h _ (by omega) lt)
    · rw [h]
      have h3' := (getD_tl h2).mp h3
      have e1 : ¬ k < i + b.length := fun q => h6 (by
        refine List.mem_of_getElem? (i := k - i) (a := c) ?_
        have : ((tl z).drop i)[k - i]? = some c := by rw [List.getElem?_drop, show i + (k - i) = k by omega]; exact h3'
        rw [h5, List.getElem?_append_left (by omega)] at this
        exact this)
      have e2 : ¬ i + b.length < k := fun q => h4 _ (by omega) q ((getD_tl lt).mpr at_)
      show (k : Int) = ((i + b.length : Nat) : Int)
      omega
theorem find_cut0 (z : Str) (c : Nat) : Txt.find z ⟨#[c]⟩ = (match cutAt c (tl z) with | none => -1 | some (b, _) => (b.length : Int)) := by
  rw [find_is_find3, show (0 : Int) = ((0 : Nat) : Int) from rfl, find_cut, List.drop_zero]
  cases cutAt c (tl z) with
  | none => rfl
  | some p => show ((0 + p.1.length : Nat) : Int) = _; rw [Nat.zero_add]
/-! ### what is new since A -/
def nw (A H : Hp) : Hp := fun a => match A a with | none => H a | some _ => none
/-- all that A tracks is tracked still -/
def Sub (A H : Hp) : Prop := ∀ a, H a = none → A a = none
theorem Sub.refl (A : Hp) : Sub A A := fun _ h => h
theorem Sub.of {A H : Hp} (e : Same A H) : Sub A H := fun a h => by
  cases q : A a with
  | none => rfl
  | some o => rw [e _ _ q] at h; cases h
theorem Sub.trans {A B C : Hp} (h : Sub A B) (k : Sub B C) : Sub A C := fun a q => h a (k a q)
theorem Sub.upd {A H : Hp} {p : Addr} {o : HO} (h : Sub A H) : Sub A (upd H p o) := fun a q => by
  by_cases e : a = p
  · rw [e, upd_same] at q; cases q
  · rw [upd_ne e] at q; exact h a q
theorem nw_get {A H : Hp} {a : Addr} {o : HO} (h : A a = none) (k : H a = some o) : nw A H a = some o := by
  unfold nw
  rw [h]
  exact k
theorem nw_inv {A H : Hp} {a : Addr} {o : HO} (k : nw A H a = some o) : A a = none ∧ H a = some o := by
  unfold nw at k
  cases q : A a with
  | none => rw [q] at k; exact ⟨rfl, k⟩
  | some u => rw [q] at k; cases k
theorem nw_same {A H : Hp} : Same (nw A H) H := fun _ _ k => (nw_inv k).2
theorem nw_mono {A H H' : Hp} (e : Same H H') : Same (nw A H) (nw A H') := fun a o k => nw_get (nw_inv k).1 (e _ _ (nw_inv k).2)
theorem nw_base {A B H : Hp} (e : Sub A B) : Same (nw B H) (nw A H) := fun a o k => nw_get (e a (nw_inv k).1) (nw_inv k).2
theorem nw_put {A H : Hp} {p : Addr} {u o : HO} (h : A p = some u) : Same (nw A H) (nw A (upd H p o)) := fun a v k => by
  obtain ⟨k1, k2⟩ := nw_inv k
  have e : a ≠ p := fun e => by rw [e, h] at k1; cases k1
  exact nw_get k1 (by rw [upd_ne e]; exact k2)
theorem nw_ne {A H : Hp} {a p : Addr} {u o : HO} (h : A p = some u) (k : nw A H a = some o) : a ≠ p := fun e => by
  have := (nw_inv k).1
  rw [e, h] at this
  cases this
theorem tl_nil : tl ("" : Str) = [] := by decide +kernel
theorem isSome_map {α β : Type} {f : α → β} {o : Option α} : (o.map f).isSome = o.isSome := by cases o <;> rfl
/-- a text of signs: its first one, the rest -/
theorem tl_cases (z : Str) : tl z = [] ∨ ∃ c r, tl z = c :: r := by
  cases e : tl z with
  | nil => exact .inl rfl
  | cons c r => exact .inr ⟨c, r, rfl⟩
theorem tl_from (z : Str) (k : Nat) : tl (cutS z (some (k : Int)) none) = (tl z).drop k := tl_drop z k
/-! ### rising rows, keys of dicts -/
theorem incr_ext : ∀ {l m : List Int}, l.Pairwise (· < ·) → m.Pairwise (· < ·) → (∀ x, x ∈ l ↔ x ∈ m) → l = m
  | [], [], _, _, _ => rfl
  | [], b :: m, _, _, h => absurd ((h b).mpr List.mem_cons_self) List.not_mem_nil
  | a :: l, [], _, _, h => absurd ((h a).mp List.mem_cons_self) List.not_mem_nil
  | a :: l, b :: m, hl, hm, h => by
    obtain ⟨l1, l2⟩ := List.pairwise_cons.mp hl
    obtain ⟨m1, m2⟩ := List.pairwise_cons.mp hm
    have e : a = b := by
      rcases List.mem_cons.mp ((h a).mp List.mem_cons_self) with e | e
      · exact e
      · rcases List.mem_cons.mp ((h b).mpr List.mem_cons_self) with e' | e'
        · exact e'.symm
        · have := l1 _ e'
          have := m1 _ e
          omega
    subst e
    rw [incr_ext l2 m2 fun x => ⟨fun q => ?_, fun q => ?_⟩]
    · rcases List.mem_cons.mp ((h x).mp (List.mem_cons_of_mem _ q)) with e | e
      · have := l1 _ q; omega
      · exact e
    · rcases List.mem_cons.mp ((h x).mpr (List.mem_cons_of_mem _ q)) with e | e
      · have := m1 _ q; omega
      · exact e
theorem strict_of {l : List Int} (h : l.Pairwise (· ≤ ·)) (n : l.Nodup) : l.Pairwise (· < ·) := by
  refine (List.Pairwise.and h n).imp ?_
  rintro a b ⟨h1, h2⟩
  have : a ≠ b := h2
  omega
/-- a set's members, in the sequence in which they came -/
def putI (ks : List Int) (k : Int) : List Int := if k ∈ ks then ks else ks ++ [k]
theorem keys_put {kvs : List (Key × V)} {ks : List Int} {k : Int} {v : V} (h : kvs.map (·.1) = ks.map Sum.inl) : (putK kvs (Sum.inl k) v).map (·.1) = (putI ks k).map Sum.inl := by
  have any : (kvs.any fun kv => decide (kv.1 = Sum.inl k)) = decide (k ∈ ks) := by
    have e : (kvs.any fun kv => decide (kv.1 = Sum.inl k)) = (kvs.map (·.1)).any fun x => decide (x = Sum.inl k) := by rw [List.any_map]; rfl
    rw [e, h, List.any_map]
    rw [Bool.eq_iff_iff, List.any_eq_true, decide_eq_true_eq]
    constructor
    · rintro ⟨x, h1, h2⟩
      have h2 := of_decide_eq_true h2
      cases h2
      exact h1
    · exact fun h1 => ⟨k, h1, decide_eq_true rfl⟩
  unfold putK putI
  rw [any]
  by_cases c : k ∈ ks
  · rw [decide_eq_true c, if_pos rfl, if_pos c, ← h, List.map_map]
    refine List.map_congr_left fun kv _ => ?_
    show (if kv.1 = Sum.inl k then (kv.1, v) else kv).1 = kv.1
    split <;> rfl
  · rw [decide_eq_false c, if_neg (by decide), if_neg c, List.map_append, List.map_append, h]
    rfl
theorem putI_mem {ks : List Int} {k x : Int} : x ∈ putI ks k ↔ x ∈ ks ∨ x = k := by
  unfold putI
  split
  · rename_i h
    exact ⟨.inl, fun q => q.elim id fun e => e ▸ h⟩
  · rw [List.mem_append, List.mem_singleton]
theorem putI_nodup {ks : List Int} {k : Int} (h : ks.Nodup) : (putI ks k).Nodup := by
  unfold putI
  split
  · exact h
  · rename_i c
    refine List.nodup_append.mpr ⟨h, List.pairwise_singleton _ _, ?_⟩
    intro a ha b hb e
    rw [List.mem_singleton] at hb
    exact c (hb ▸ e ▸ ha)
theorem keys_len {kvs : List (Key × V)} {ks : List Int} (h : kvs.map (·.1) = ks.map Sum.inl) : kvs.length = ks.length := by
  have := congrArg List.length h
  rwa [List.length_map, List.length_map] at this
/-- members below n, none twice: n at most -/
theorem few_ints : ∀ (n : Nat) {ks : List Int}, ks.Nodup → (∀ k ∈ ks, 0 ≤ k ∧ k < (n : Int)) → ks.length ≤ n
  | 0, [], _, _ => Nat.le_refl _
  | 0, k :: ks, _, h => by have := h k List.mem_cons_self; omega
  | n + 1, ks, hn, h => by
    have h1 : (ks.erase (n : Int)).length ≤ n := by
      refine few_ints n (hn.erase _) fun k hk => ?_
      have h2 := h k (List.mem_of_mem_erase hk)
      have h3 : k ≠ (n : Int) := by
        intro e
        rw [e] at hk
        exact (List.Nodup.mem_erase_iff hn).mp hk |>.1 rfl
      omega
    rw [List.length_erase] at h1
    split at h1 <;> omega
def sg (c : Nat) : Str := ⟨#[c]⟩
def mk (l : List Nat) : Str := ⟨l.toArray⟩
theorem tl_mk (l : List Nat) : tl (mk l) = l := by
  show (l.toArray).toList = l
  simp
theorem len_mk (l : List Nat) : (mk l).length = l.length := by rw [← len_tl, tl_mk]
theorem rd_strD {H : Hp} {Q : VK} {n : Nat} (h : n < 10) (q : Q (.str (sg (48 + n))) H) : xStrI [.int (n : Int)] H Q := by
  have e : ∀ n, n < 10 → ((toString ((n : Nat) : Int) : String) : Str) = sg (48 + n) := by decide +kernel
  refine ⟨_, rfl, ?_, ?_⟩
  · have : ∀ n, n < 10 → (((n : Nat) : Int).natAbs.log2 < 1920) := by decide +kernel
    exact this n h
  · rw [e n h]; exact q
theorem cutV_take (xs : List V) (k : Nat) : cutV xs none (some (k : Int)) = xs.take k := by
  unfold cutV
  rw [HT.sIx_none, List.drop_zero, Nat.sub_zero, HT.sIx_nat]
  by_cases h : k ≤ xs.length
  · rw [Nat.min_eq_left h]
  · rw [Nat.min_eq_right (by omega), List.take_of_length_le (Nat.le_refl _), List.take_of_length_le (by omega)]
theorem cutV_drop (xs : List V) (k : Nat) : cutV xs (some (k : Int)) none = xs.drop k := by
  unfold cutV
  rw [HT.sIx_none, HT.sIx_nat]
  by_cases h : k ≤ xs.length
  · rw [Nat.min_eq_left h, List.take_of_length_le (by rw [List.length_drop]; exact Nat.le_refl _)]
  · rw [Nat.min_eq_right (by omega), List.drop_of_length_le (Nat.le_refl _), List.drop_of_length_le (by omega), List.take_nil]
theorem cutV_mid (xs : List V) (i j : Nat) (h : i ≤ j) : cutV xs (some (i : Int)) (some (j : Int)) = (xs.drop i).take (j - i) := by
  unfold cutV
  rw [HT.sIx_nat, HT.sIx_nat]
  by_cases h1 : i ≤ xs.length
  · rw [Nat.min_eq_left h1]
    by_cases h2 : j ≤ xs.length
    · rw [Nat.min_eq_left h2]
    · rw [Nat.min_eq_right (by omega), List.take_of_length_le (by rw [List.length_drop]; exact Nat.le_refl _), List.take_of_length_le (by rw [List.length_drop]; omega)]
  · rw [Nat.min_eq_right (by omega), Nat.min_eq_right (by omega), List.drop_of_length_le (Nat.le_refl _), List.drop_of_length_le (by omega), List.take_nil, List.take_nil]
end Mine

/-! ## Data that never changes: tuples of tuples, ints, texts -/
namespace Mine
open PySem PySem.Spec PyProof.Rows L2
open TL (tl)
set_option linter.all false
/-- tuples stay -/
def Tp (H H' : Hp) : Prop := ∀ a xs, H a = some (.tup xs) → H' a = some (.tup xs)
theorem Tp.refl (H : Hp) : Tp H H := fun _ _ h => h
theorem Tp.trans {A B C : Hp} (h : Tp A B) (k : Tp B C) : Tp A C := fun a xs q => k a xs (h a xs q)
theorem Tp.of {A B : Hp} (h : Same A B) : Tp A B := fun a xs q => h a _ q
theorem Tp.new {A B : Hp} {p : Addr} {o : HO} (h : Tp A B) (n : B p = none) : Tp A (upd B p o) := fun a xs q => by
  have := h a xs q
  rw [upd_ne (ne_of_none this n)]
  exact this
theorem Tp.lst {A B : Hp} {p : Addr} {o : HO} {ys : List V} (h : Tp A B) (n : B p = some (.lst ys)) : Tp A (upd B p o) := fun a xs q => by
  have := h a xs q
  rw [upd_ne (fun e => by rw [e, n] at this; cases this)]
  exact this
theorem Tp.dct {A B : Hp} {p : Addr} {o : HO} {ys : List (Key × V)} (h : Tp A B) (n : B p = some (.dK ys)) : Tp A (upd B p o) := fun a xs q => by
  have := h a xs q
  rw [upd_ne (fun e => by rw [e, n] at this; cases this)]
  exact this
theorem Tp.put {A B : Hp} {p : Addr} {o : HO} (h : Tp A B) (n : A p = none) : Tp A (upd B p o) := fun a xs q => by
  rw [upd_ne (ne_of_none q n)]
  exact h a xs q
mutual
/-- data, held by a value -/
inductive Im (H : Hp) : V → PyData → Prop
  | non : Im H .non .none
  | bl (b : Bool) : Im H (.bl b) (.bool b)
  | int (i : Int) : Im H (.int i) (.int i)
  | str (x : Str) : Im H (.str x) (.str x)
  | tup {a : Addr} {xs : List V} {ds : List PyData} : H a = some (.tup xs) → ImAll H xs ds → Im H (.ref a) (.tuple ds)
inductive ImAll (H : Hp) : List V → List PyData → Prop
  | nil : ImAll H [] []
  | cons {v : V} {vs : List V} {d : PyData} {ds : List PyData} : Im H v d → ImAll H vs ds → ImAll H (v :: vs) (d :: ds)
end
section
variable {H H' : Hp} {K : PySem.W.Frag}
mutual
theorem Im.mono (e : Tp H H') : ∀ (d : PyData) (v : V), Im H v d → Im H' v d
  | .none, _, h => by cases h; exact .non
  | .bool b, _, h => by cases h; exact .bl b
  | .int i, _, h => by cases h; exact .int i
  | .str x, _, h => by cases h; exact .str x
  | .tuple ds, _, h => by
    cases h with
    | tup h1 h2 => exact .tup (e _ _ h1) (ImAll.mono e ds _ h2)
  | .list ds, _, h => by cases h
  | .dict ds, _, h => by cases h
theorem ImAll.mono (e : Tp H H') : ∀ (ds : List PyData) (vs : List V), ImAll H vs ds → ImAll H' vs ds
  | [], _, h => by cases h; exact .nil
  | d :: ds, _, h => by
    cases h with
    | cons h1 h2 => exact .cons (Im.mono e d _ h1) (ImAll.mono e ds _ h2)
end
mutual
theorem Im.dp : ∀ (d : PyData) (v : V), Im H v d → Dp K H v d
  | .none, _, h => by cases h; exact .non
  | .bool b, _, h => by cases h; exact .bl b
  | .int i, _, h => by cases h; exact .int i
  | .str x, _, h => by cases h; exact .str x
  | .tuple ds, _, h => by
    cases h with
    | tup h1 h2 => exact .tup (SqT.of h1) (ImAll.dp ds _ h2)
  | .list ds, _, h => by cases h
  | .dict ds, _, h => by cases h
theorem ImAll.dp : ∀ (ds : List PyData) (vs : List V), ImAll H vs ds → DpAll K H vs ds
  | [], _, h => by cases h; exact .nil
  | d :: ds, _, h => by
    cases h with
    | cons h1 h2 => exact .cons (Im.dp d _ h1) (ImAll.dp ds _ h2)
end
theorem Im.up {v : V} {d : PyData} (h : Im H v d) (e : Tp H H') : Im H' v d := Im.mono e d v h
theorem ImAll.up {vs : List V} {ds : List PyData} (h : ImAll H vs ds) (e : Tp H H') : ImAll H' vs ds := ImAll.mono e ds vs h
theorem Im.to {v : V} {d : PyData} (h : Im H v d) : Dp K H v d := Im.dp d v h
theorem ImAll.to {vs : List V} {ds : List PyData} (h : ImAll H vs ds) : DpAll K H vs ds := ImAll.dp ds vs h
theorem ImAll.length : ∀ {vs : List V} {ds : List PyData}, ImAll H vs ds → vs.length = ds.length
  | _, [], h => by cases h; rfl
  | _, d :: ds, h => by
    cases h with
    | cons _ h2 => rw [List.length_cons, List.length_cons, ImAll.length h2]
theorem ImAll.get : ∀ {vs : List V} {ds : List PyData} {i : Nat} {d : PyData}, ImAll H vs ds → ds[i]? = some d → ∃ v, vs[i]? = some v ∧ Im H v d
  | _, [], i, _, h, e => by simp at e
  | _, d :: ds, 0, _, h, e => by
    cases h with
    | cons h1 h2 => cases e; exact ⟨_, rfl, h1⟩
  | _, d :: ds, i + 1, _, h, e => by
    cases h with
    | cons h1 h2 => exact ImAll.get (i := i) h2 e
theorem ImAll.getV : ∀ {vs : List V} {ds : List PyData} {i : Nat} {v : V}, ImAll H vs ds → vs[i]? = some v → ∃ d, ds[i]? = some d ∧ Im H v d := fun {vs ds i v} h e => by
  have l := (List.getElem?_eq_some_iff.mp e).1
  rw [h.length] at l
  obtain ⟨w, h1, h2⟩ := h.get (List.getElem?_eq_getElem l)
  rw [e] at h1
  cases h1
  exact ⟨_, List.getElem?_eq_getElem l, h2⟩
theorem ImAll.append : ∀ {vs ws : List V} {ds es : List PyData}, ImAll H vs ds → ImAll H ws es → ImAll H (vs ++ ws) (ds ++ es)
  | _, _, [], _, h, k => by cases h; exact k
  | _, _, d :: ds, _, h, k => by
    cases h with
    | cons h1 h2 => exact .cons h1 (ImAll.append h2 k)
theorem ImAll.snoc {vs : List V} {v : V} {ds : List PyData} {d : PyData} (h : ImAll H vs ds) (k : Im H v d) : ImAll H (vs ++ [v]) (ds ++ [d]) := h.append (.cons k .nil)
theorem ImAll.set : ∀ {vs : List V} {ds : List PyData} {v : V} {d : PyData} (i : Nat), ImAll H vs ds → Im H v d → ImAll H (vs.set i v) (ds.set i d)
  | _, [], _, _, i, h, _ => by cases h; exact .nil
  | _, d :: ds, _, _, 0, h, k => by
    cases h with
    | cons h1 h2 => exact .cons k h2
  | _, d :: ds, _, _, i + 1, h, k => by
    cases h with
    | cons h1 h2 => exact .cons h1 (ImAll.set i h2 k)
theorem ImAll.take : ∀ {vs : List V} {ds : List PyData} (i : Nat), ImAll H vs ds → ImAll H (vs.take i) (ds.take i)
  | _, [], i, h => by cases h; rw [List.take_nil, List.take_nil]; exact .nil
  | _, d :: ds, 0, h => .nil
  | _, d :: ds, i + 1, h => by
    cases h with
    | cons h1 h2 => exact .cons h1 (ImAll.take i h2)
theorem ImAll.drop : ∀ {vs : List V} {ds : List PyData} (i : Nat), ImAll H vs ds → ImAll H (vs.drop i) (ds.drop i)
  | _, [], i, h => by cases h; rw [List.drop_nil, List.drop_nil]; exact .nil
  | _, d :: ds, 0, h => h
  | _, d :: ds, i + 1, h => by
    cases h with
    | cons h1 h2 => exact ImAll.drop i h2
theorem im_strs : ∀ ws : List Str, ImAll H (ws.map V.str) (ws.map PyData.str)
  | [] => .nil
  | w :: ws => .cons (.str w) (im_strs ws)
theorem im_ints : ∀ ws : List Int, ImAll H (ws.map V.int) (ws.map PyData.int)
  | [] => .nil
  | w :: ws => .cons (.int w) (im_ints ws)
/-- a tuple of one, two, three, four -/
theorem Im.t1 {v : V} {d : PyData} (h : Im H v (.tuple [d])) : ∃ a x, v = .ref a ∧ H a = some (.tup [x]) ∧ Im H x d := by
  cases h with
  | tup h1 h2 =>
    cases h2 with
    | cons k1 r1 => cases r1; exact ⟨_, _, rfl, h1, k1⟩
theorem Im.t2 {v : V} {d e : PyData} (h : Im H v (.tuple [d, e])) : ∃ a x y, v = .ref a ∧ H a = some (.tup [x, y]) ∧ Im H x d ∧ Im H y e := by
  cases h with
  | tup h1 h2 =>
    cases h2 with
    | cons k1 r1 =>
      cases r1 with
      | cons k2 r2 => cases r2; exact ⟨_, _, _, rfl, h1, k1, k2⟩
theorem Im.t3 {v : V} {d e f : PyData} (h : Im H v (.tuple [d, e, f])) : ∃ a x y z, v = .ref a ∧ H a = some (.tup [x, y, z]) ∧ Im H x d ∧ Im H y e ∧ Im H z f := by
  cases h with
  | tup h1 h2 =>
    cases h2 with
    | cons k1 r1 =>
      cases r1 with
      | cons k2 r2 =>
        cases r2 with
        | cons k3 r3 => cases r3; exact ⟨_, _, _, _, rfl, h1, k1, k2, k3⟩
theorem Im.t4 {v : V} {d e f g : PyData} (h : Im H v (.tuple [d, e, f, g])) : ∃ a x y z u, v = .ref a ∧ H a = some (.tup [x, y, z, u]) ∧ Im H x d ∧ Im H y e ∧ Im H z f ∧ Im H u g := by
  cases h with
  | tup h1 h2 =>
    cases h2 with
    | cons k1 r1 =>
      cases r1 with
      | cons k2 r2 =>
        cases r2 with
        | cons k3 r3 =>
          cases r3 with
          | cons k4 r4 => cases r4; exact ⟨_, _, _, _, _, rfl, h1, k1, k2, k3, k4⟩
theorem Im.tn {v : V} {ds : List PyData} (h : Im H v (.tuple ds)) : ∃ a xs, v = .ref a ∧ H a = some (.tup xs) ∧ ImAll H xs ds := by
  cases h with
  | tup h1 h2 => exact ⟨_, _, rfl, h1, h2⟩
theorem Im.i {v : V} {i : Int} (h : Im H v (.int i)) : v = .int i := by cases h; rfl
theorem Im.s {v : V} {x : Str} (h : Im H v (.str x)) : v = .str x := by cases h; rfl
theorem Im.n {v : V} (h : Im H v .none) : v = .non := by cases h; rfl
theorem Im.b {v : V} {b : Bool} (h : Im H v (.bool b)) : v = .bl b := by cases h; rfl
theorem Im.mk1 {a : Addr} {x : V} {d : PyData} (h : H a = some (.tup [x])) (h1 : Im H x d) : Im H (.ref a) (.tuple [d]) := .tup h (.cons h1 .nil)
theorem Im.mk2 {a : Addr} {x y : V} {d e : PyData} (h : H a = some (.tup [x, y])) (h1 : Im H x d) (h2 : Im H y e) : Im H (.ref a) (.tuple [d, e]) := .tup h (.cons h1 (.cons h2 .nil))
theorem Im.mk3 {a : Addr} {x y z : V} {d e f : PyData} (h : H a = some (.tup [x, y, z])) (h1 : Im H x d) (h2 : Im H y e) (h3 : Im H z f) : Im H (.ref a) (.tuple [d, e, f]) := .tup h (.cons h1 (.cons h2 (.cons h3 .nil)))
theorem Im.mk4 {a : Addr} {x y z u : V} {d e f g : PyData} (h : H a = some (.tup [x, y, z, u])) (h1 : Im H x d) (h2 : Im H y e) (h3 : Im H z f) (h4 : Im H u g) : Im H (.ref a) (.tuple [d, e, f, g]) := .tup h (.cons h1 (.cons h2 (.cons h3 (.cons h4 .nil))))
end
/-! ### what may be shown, by bounds -/
mutual
def good : PyData → Bool
  | .none | .bool _ => true
  | .int i => decide (i.natAbs < 10 ^ 6)
  | .str x => x.cps.all (· < 0x110000)
  | .list xs | .tuple xs => goodAll xs
  | .dict _ => false
def goodAll : List PyData → Bool
  | [] => true
  | x :: xs => good x && goodAll xs
end
mutual
theorem good_ok : ∀ d : PyData, good d = true → d.canLay0 = true ∧ d.intsShort 13 = true ∧ d.showable = true ∧ d.hasDict = false
  | .none, _ => ⟨rfl, rfl, rfl, rfl⟩
  | .bool _, _ => ⟨rfl, rfl, rfl, rfl⟩
  | .int i, h => by
    have h1 : i.natAbs < 10 ^ 6 := of_decide_eq_true h
    refine ⟨rfl, ?_, ?_, rfl⟩
    · exact decide_eq_true (PyData.shown_int_le (Nat.lt_trans h1 (by decide)))
    · refine decide_eq_true (Nat.lt_of_le_of_lt ?_ (show 20 < 1920 by decide))
      have h2 : i.natAbs < 2 ^ 20 := Nat.lt_trans h1 (by decide)
      have := PySem.Flt.log2_lt_of (by decide) h2
      omega
  | .str x, h => ⟨h, rfl, rfl, rfl⟩
  | .list xs, h => goodAll_ok xs h
  | .tuple xs, h => goodAll_ok xs h
theorem goodAll_ok : ∀ xs : List PyData, goodAll xs = true → PyData.canLayAll0 xs = true ∧ PyData.intsShortAll 13 xs = true ∧ PyData.showableAll xs = true ∧ PyData.hasDictAll xs = false
  | [], _ => ⟨rfl, rfl, rfl, rfl⟩
  | x :: xs, h => by
    have h' : (good x && goodAll xs) = true := h
    rw [Bool.and_eq_true] at h'
    obtain ⟨a1, a2, a3, a4⟩ := good_ok x h'.1
    obtain ⟨b1, b2, b3, b4⟩ := goodAll_ok xs h'.2
    refine ⟨?_, ?_, ?_, ?_⟩
    · show (PyData.canLay0 x && PyData.canLayAll0 xs) = true
      rw [a1, b1]; rfl
    · show (PyData.intsShort 13 x && PyData.intsShortAll 13 xs) = true
      rw [a2, b2]; rfl
    · show (PyData.showable x && PyData.showableAll xs) = true
      rw [a3, b3]; rfl
    · show (PyData.hasDict x || PyData.hasDictAll xs) = false
      rw [a4, b4]; rfl
end
/-- bounds of data: its depth, its weight -/
structure Bd (k w : Nat) (d : PyData) : Prop where
  g : good d = true
  dp : d.depth ≤ k
  w : d.weight ≤ w
theorem Bd.mono {k w k' w' : Nat} {d : PyData} (h : Bd k w d) (h1 : k ≤ k') (h2 : w ≤ w') : Bd k' w' d := ⟨h.g, Nat.le_trans h.dp h1, Nat.le_trans h.w h2⟩
theorem bd_all {k w : Nat} : ∀ {ds : List PyData}, (∀ d ∈ ds, Bd k w d) → goodAll ds = true ∧ PyData.depthAll ds ≤ k ∧ PyData.weightAll ds ≤ ds.length * (w + 1)
  | [], _ => ⟨rfl, Nat.zero_le _, Nat.zero_le _⟩
  | d :: ds, h => by
    obtain ⟨h1, h2, h3⟩ := bd_all fun e he => h e (List.mem_cons_of_mem _ he)
    obtain ⟨a1, a2, a3⟩ := h d List.mem_cons_self
    refine ⟨?_, ?_, ?_⟩
    · show (good d && goodAll ds) = true
      rw [a1, h1]; rfl
    · show max _ _ ≤ k
      omega
    · show PyData.weight d + 1 + PyData.weightAll ds ≤ _
      rw [List.length_cons, Nat.add_mul, Nat.one_mul]
      omega
theorem Bd.tup {k w : Nat} {ds : List PyData} (h : ∀ d ∈ ds, Bd k w d) : Bd (k + 1) (ds.length * (w + 1)) (.tuple ds) := by
  obtain ⟨h1, h2, h3⟩ := bd_all h
  exact ⟨h1, Nat.succ_le_succ h2, h3⟩
theorem Bd.lst {k w : Nat} {ds : List PyData} (h : ∀ d ∈ ds, Bd k w d) : Bd (k + 1) (ds.length * (w + 1)) (.list ds) := by
  obtain ⟨h1, h2, h3⟩ := bd_all h
  exact ⟨h1, Nat.succ_le_succ h2, h3⟩
theorem Bd.int {i : Int} (h : i.natAbs < 10 ^ 6) : Bd 0 20 (.int i) := by
  refine ⟨decide_eq_true h, Nat.le_refl _, ?_⟩
  show (if i == 0 then 0 else i.natAbs.log2 + 1) ≤ 20
  split
  · omega
  · have h2 : i.natAbs < 2 ^ 20 := Nat.lt_trans h (by decide)
    have := PySem.Flt.log2_lt_of (by decide) h2
    omega
theorem Bd.str {x : Str} (h : ∀ c ∈ tl x, c < 0x110000) : Bd 0 x.length (.str x) := by
  refine ⟨?_, Nat.le_refl _, Nat.le_refl _⟩
  show x.cps.all (· < 0x110000) = true
  rw [Array.all_eq_true']
  intro c hc
  exact decide_eq_true (h c (Array.mem_toList_iff.mpr hc))
theorem Bd.non : Bd 0 0 .none := ⟨rfl, Nat.le_refl _, Nat.le_refl _⟩
theorem Bd.bl {b : Bool} : Bd 0 0 (.bool b) := ⟨rfl, Nat.le_refl _, Nat.le_refl _⟩
theorem Bd.shows {k w : Nat} {d : PyData} (h : Bd k w d) (h1 : k ≤ 60) (h2 : w ≤ 2 ^ 20) : Shows d := by
  obtain ⟨g1, g2, g3, g4⟩ := good_ok d h.g
  refine ⟨g3, g4, Nat.le_trans h.dp h1, ?_⟩
  refine PyData.shown_fits_of_layable0 (B := 13) (by decide) (by decide) ?_ g2
  show (PyData.canLay0 d && decide (PyData.depth d ≤ 64) && decide (PyData.weight d ≤ 2 ^ 20)) = true
  rw [g1, decide_eq_true (show PyData.depth d ≤ 64 from Nat.le_trans h.dp (by omega)), decide_eq_true (show PyData.weight d ≤ 2 ^ 20 from Nat.le_trans h.w h2)]
  rfl
theorem Bd.shaped {k w : Nat} {d : PyData} (h : Bd k w d) (h1 : k ≤ 60) : SeqAt.shaped d = true := by
  obtain ⟨g1, _, _, _⟩ := good_ok d h.g
  show (PyData.canLay0 d && decide (PyData.depth d ≤ 64)) = true
  rw [g1, decide_eq_true (show PyData.depth d ≤ 64 from Nat.le_trans h.dp (by omega))]
  rfl
/-! ### equal data without bools is the same data -/
mutual
def noB : PyData → Bool
  | .none | .int _ | .str _ => true
  | .list xs | .tuple xs => noBs xs
  | .bool _ | .dict _ => false
def noBs : List PyData → Bool
  | [] => true
  | x :: xs => noB x && noBs xs
end
mutual
theorem eqv_iff : ∀ (d e : PyData), noB d = true → noB e = true → (PyData.eqv d e = true ↔ d = e)
  | .none, e, _, h => by cases e <;> first | exact ⟨fun _ => rfl, fun _ => rfl⟩ | exact ⟨(fun q => nomatch q), (fun q => nomatch q)⟩
  | .int i, e, _, h => by
    cases e with
    | int j =>
      refine ⟨fun q => ?_, fun q => ?_⟩
      · have q' : (i == j) = true := q
        rw [beq_iff_eq.mp q']
      · cases q
        exact beq_self_eq_true i
    | bool b => cases h
    | _ => exact ⟨(fun q => nomatch q), (fun q => nomatch q)⟩
  | .str x, e, _, h => by
    cases e with
    | str y =>
      refine ⟨fun q => ?_, fun q => ?_⟩
      · have q' : (x == y) = true := q
        rw [beq_iff_eq.mp q']
      · cases q
        exact beq_self_eq_true x
    | _ => exact ⟨(fun q => nomatch q), (fun q => nomatch q)⟩
  | .list xs, e, hd, h => by
    cases e with
    | list ys =>
      have r := eqvs_iff xs ys hd h
      exact ⟨fun q => by rw [r.mp q], fun q => r.mpr (PyData.list.inj q)⟩
    | _ => exact ⟨(fun q => nomatch q), (fun q => nomatch q)⟩
  | .tuple xs, e, hd, h => by
    cases e with
    | tuple ys =>
      have r := eqvs_iff xs ys hd h
      exact ⟨fun q => by rw [r.mp q], fun q => r.mpr (PyData.tuple.inj q)⟩
    | _ => exact ⟨(fun q => nomatch q), (fun q => nomatch q)⟩
  | .bool _, _, hd, _ => by cases hd
  | .dict _, _, hd, _ => by cases hd
theorem eqvs_iff : ∀ (xs ys : List PyData), noBs xs = true → noBs ys = true → (PyData.eqvAll xs ys = true ↔ xs = ys)
  | [], [], _, _ => ⟨fun _ => rfl, fun _ => rfl⟩
  | [], _ :: _, _, _ => ⟨(fun q => nomatch q), (fun q => nomatch q)⟩
  | _ :: _, [], _, _ => ⟨(fun q => nomatch q), (fun q => nomatch q)⟩
  | x :: xs, y :: ys, hx, hy => by
    have hx' : (noB x && noBs xs) = true := hx
    have hy' : (noB y && noBs ys) = true := hy
    rw [Bool.and_eq_true] at hx' hy'
    have r1 := eqv_iff x y hx'.1 hy'.1
    have r2 := eqvs_iff xs ys hx'.2 hy'.2
    have e : PyData.eqvAll (x :: xs) (y :: ys) = (PyData.eqv x y && PyData.eqvAll xs ys) := by rw [PyData.eqvAll]
    rw [e, Bool.and_eq_true, r1, r2, List.cons.injEq]
end
theorem noBs_map {α : Type} (f : α → PyData) (h : ∀ a, noB (f a) = true) : ∀ xs : List α, noBs (xs.map f) = true
  | [] => rfl
  | x :: xs => by
    show (noB (f x) && noBs (xs.map f)) = true
    rw [h x, noBs_map f h xs]
    rfl
theorem map_inj' {α β : Type} {f : α → β} (h : ∀ a b, f a = f b → a = b) : ∀ {xs ys : List α}, xs.map f = ys.map f → xs = ys
  | [], [], _ => rfl
  | [], _ :: _, q => nomatch q
  | _ :: _, [], q => nomatch q
  | x :: xs, y :: ys, q => by
    rw [List.map_cons, List.map_cons] at q
    obtain ⟨q1, q2⟩ := List.cons.inj q
    rw [h _ _ q1, map_inj' h q2]
end Mine

/-! ## Comprehensions and loops over data that never changes -/
namespace Mine
open PySem PySem.Spec PyProof.Rows L2
open TL (tl)
set_option linter.all false
section
variable {K : PySem.W.Frag} {H : Hp} {σ : St} {vs : List Nat} {g : TG} {tt : TT} {te tk tv : TE} {Q : VK} {a : Addr} {xs : List V} {α : Type} {as : List α} {enc out : α → PyData} {p : α → Bool}
theorem Same.tp {H H' : Hp} (h : Same H H') : Tp H H' := Tp.of h
theorem ixN_nat {n j : Nat} (h : j < n) : ixN n (j : Int) = some j := by
  unfold ixN
  rw [if_pos (by omega), if_pos (by omega)]
  rfl
/-- what one turn asks: x is a's; the test tells p a, the new value is out a's -/
def ImT (enc out : α → PyData) (p : α → Bool) (as : List α) (g : TG) (tt : TT) (te : TE) (vs : List Nat) (σ : St) (H : Hp) : Prop := ∀ (D : Addr) (x : V) (y : α) (H1 : Hp) (N : Hp → Prop), H D = none → y ∈ as → Same H H1 → Im H1 x (enc y) →
  (p y = false → ∀ H2, Same H1 H2 → N H2) → (p y = true → ∀ v H2, Same H1 H2 → Im H2 v (out y) → ∃ acc, H2 D = some (.lst acc) ∧ acc.length < sizeLine ∧ N (upd H2 D (.lst (acc ++ [v])))) → LcT g tt te vs σ D N x H1
def ImP (enc out : α → PyData) (p : α → Bool) (as : List α) (H : Hp) (D : Addr) (i : Nat) (H' : Hp) : Prop := Same H H' ∧ ∃ ys, H' D = some (.lst ys) ∧ ImAll H' ys (((as.take i).filter p).map out)
theorem ImP.zero {D : Addr} (hD : H D = none) : ImP enc out p as H D 0 (upd H D (.lst [])) := ⟨(Same.refl H).new (o := .lst []) hD, [], upd_same, .nil⟩
theorem ImP.step {D : Addr} {i : Nat} {x : V} {y : α} {H1 : Hp} (hl : as.length ≤ 1000000) (h : ImT enc out p as g tt te vs σ H) (hD : H D = none) (hy : as[i]? = some y) (ix : Im H1 x (enc y)) (hP : ImP enc out p as H D i H1) : LcT g tt te vs σ D (ImP enc out p as H D (i + 1)) x H1 := by
  obtain ⟨k, ys, hys, im⟩ := hP
  have grow : as.take (i + 1) = as.take i ++ [y] := by rw [List.take_add_one, hy]; rfl
  refine h D x y H1 _ hD (List.mem_of_getElem? hy) k ix (fun hp H2 k2 => ⟨k.trans k2, ys, k2 _ _ hys, ?_⟩) (fun hp v H2 k2 iv => ⟨ys, k2 _ _ hys, ?_, (k.trans k2).put hD, ys ++ [v], upd_same, ?_⟩)
  · rw [grow, List.filter_append, List.map_append]
    simp only [List.filter_cons, hp, List.filter_nil, Bool.false_eq_true, if_false, List.map_nil, List.append_nil]
    exact im.up (Tp.of k2)
  · refine szLt ?_
    rw [im.length, List.length_map]
    have h1 := List.length_filter_le p (as.take i)
    rw [List.length_take] at h1
    omega
  · rw [grow, List.filter_append, List.map_append]
    simp only [List.filter_cons, hp, List.filter_nil, if_true, List.map_cons, List.map_nil]
    exact ((im.up (Tp.of k2)).snoc iv).up ((Tp.refl H2).lst (k2 _ _ hys))
/-- [.. for target in a list of data if ..] -/
theorem rd_imL (h : H a = some (.lst xs)) (im : ImAll H xs (as.map enc)) (hl : as.length ≤ 1000000) (t : ImT enc out p as g tt te vs σ H)
    (hd : ∀ D H' ys, H D = none → Same H H' → H' D = some (.lst ys) → ImAll H' ys ((as.filter p).map out) → Q (.ref D) H') : ∃ b, V.ref a = .ref b ∧ (∃ xs, SqL K H b xs) ∧ LcW (Itl K b) g tt te vs σ H Q := by
  refine rd_clL (SqL.of h) (fun D i H' => ImP enc out p as H D i H') (fun D hD => ImP.zero hD) (fun D i H' _ _ h' => SqL.of (h'.1 _ _ h)) (fun D i x H' hD hx hP => ?_) (fun D H' hD hP => ?_)
  · obtain ⟨d, hd, ix⟩ := im.getV hx
    rw [List.getElem?_map] at hd
    obtain ⟨y, hy, rfl⟩ := Option.map_eq_some_iff.mp hd
    exact ImP.step hl t hD hy (ix.up (Tp.of hP.1)) hP
  · obtain ⟨k, ys, hys, im'⟩ := hP
    have l : xs.length = as.length := by rw [im.length, List.length_map]
    rw [l, List.take_length] at im'
    exact hd D H' ys hD k hys im'
theorem rd_imT (h : H a = some (.tup xs)) (im : ImAll H xs (as.map enc)) (hl : as.length ≤ 1000000) (t : ImT enc out p as g tt te vs σ H)
    (hd : ∀ D H' ys, H D = none → Same H H' → H' D = some (.lst ys) → ImAll H' ys ((as.filter p).map out) → Q (.ref D) H') : ∃ b, V.ref a = .ref b ∧ (∃ xs, SqT K H b xs) ∧ LcW (Itt K b) g tt te vs σ H Q := by
  refine rd_clT (SqT.of h) (fun D i H' => ImP enc out p as H D i H') (fun D hD => ImP.zero hD) (fun D i H' _ _ h' => SqT.of (h'.1 _ _ h)) (fun D i x H' hD hx hP => ?_) (fun D H' hD hP => ?_)
  · obtain ⟨d, hd, ix⟩ := im.getV hx
    rw [List.getElem?_map] at hd
    obtain ⟨y, hy, rfl⟩ := Option.map_eq_some_iff.mp hd
    exact ImP.step hl t hD hy (ix.up (Tp.of hP.1)) hP
  · obtain ⟨k, ys, hys, im'⟩ := hP
    have l : xs.length = as.length := by rw [im.length, List.length_map]
    rw [l, List.take_length] at im'
    exact hd D H' ys hD k hys im'
theorem eqv_pair (a b : Str) (i j : Int) : PyData.eqv (.tuple [.str a, .int i]) (.tuple [.str b, .int j]) = (decide (a = b) && decide (i = j)) := by
  rw [Bool.eq_iff_iff, eqv_iff _ _ rfl rfl, Bool.and_eq_true, decide_eq_true_eq, decide_eq_true_eq]
  constructor
  · intro h
    obtain ⟨h1, h2⟩ := List.cons.inj (PyData.tuple.inj h)
    exact ⟨PyData.str.inj h1, PyData.int.inj (List.cons.inj h2).1⟩
  · rintro ⟨rfl, rfl⟩
    rfl
/-- the distinct ones, as they are first met -/
theorem dist_step (ns : List Int) (i : Nat) {n : Int} (h : ns[i]? = some n) : PyProof.Rows.firstMet (fun i => ns.getD i 0) (i + 1) = putI (PyProof.Rows.firstMet (fun i => ns.getD i 0) i) n := by
  have e : ns.getD i 0 = n := by rw [List.getD_eq_getElem?_getD, h]; rfl
  rw [firstMet_succ]
  show step_dedup _ (ns.getD i 0) = _
  rw [e]
  unfold step_dedup putI
  by_cases c : n ∈ PyProof.Rows.firstMet (fun i => ns.getD i 0) i
  · rw [if_pos c, if_pos (show ((PyProof.Rows.firstMet (fun i => ns.getD i 0) i).any fun x => x == n) = true from List.any_eq_true.mpr ⟨n, c, beq_self_eq_true n⟩)]
  · rw [if_neg c, if_neg (fun q => by obtain ⟨y, h1, h2⟩ := List.any_eq_true.mp q; rw [eq_of_beq h2] at h1; exact c h1)]
/-! ### a walk over the keys of a dict, which is locked meanwhile -/
theorem rd_lock {t : TS} {D : Ends} {d : Addr} {u : HO} (h : H d = some u) (mu : Mut (some u)) (q : ∀ od, t ⟨fun σ' H' => H' d = some (.frz od u) ∧ D.nx σ' (upd H' d u), fun v H' => H' d = some (.frz od u) ∧ D.rt v (upd H' d u), fun σ' H' => H' d = some (.frz od u) ∧ D.bk σ' (upd H' d u), fun σ' H' => H' d = some (.frz od u) ∧ D.ct σ' (upd H' d u)⟩ σ (upd H d (.frz od u))) : tLock t D σ H := ⟨d, u, h, mu, q⟩
theorem rd_dIn {ty td : TE} (q : ty σ H fun y H1 => td σ H1 fun x H2 => ∃ a o, x = .ref a ∧ DGet H2 a y o ∧ Q (.bl o.isSome) H2) : tDIn ty td σ H Q := q
theorem rd_forK {td : TE} {s : TS} {D : Ends} (q : td σ H fun x H1 => ∃ d o, x = .ref d ∧ ((∃ kvs, H1 d = some (.frz o (.dK kvs)) ∧ ForW (Itk d o kvs) g s D σ H1) ∨ ∃ kvs, H1 d = some (.frz o (.dT kvs)) ∧ ForW (Itkt d o kvs) g s D σ H1)) : tFor (iKeys td) g s D σ H := q
theorem rd_itK {d : Addr} {o : Obj} {kvs : List (Key × V)} {s : TS} {D : Ends} (h : H d = some (.frz o (.dK kvs))) (Pv : Nat → St → Hp → Prop) (h0 : Pv 0 σ H) (hl : ∀ i σ H, i ≤ kvs.length → Pv i σ H → H d = some (.frz o (.dK kvs)))
    (hs : ∀ i k v σ H', kvs[i]? = some (k, v) → Pv i σ H' → g (kV k) σ H' fun σ2 H2 => s { D with nx := Pv (i + 1), ct := Pv (i + 1), bk := D.nx } σ2 H2) (hd : ∀ σ H', Pv kvs.length σ H' → D.nx σ H') :
    ∃ d' o', V.ref d = .ref d' ∧ ((∃ kvs, H d' = some (.frz o' (.dK kvs)) ∧ ForW (Itk d' o' kvs) g s D σ H) ∨ ∃ kvs, H d' = some (.frz o' (.dT kvs)) ∧ ForW (Itkt d' o' kvs) g s D σ H) := by
  refine ⟨d, o, rfl, .inl ⟨kvs, h, ?_⟩⟩
  refine for_it walk_keys Pv h0 (fun i σ H hi p => hl i σ H hi p) ?_ hd
  rintro i x σ' H1 H2 hi hP ⟨rfl, k, v, hk, rfl⟩
  exact hs i k v σ' H2 hk hP
/-! ### a walk over a list or a tuple -/
def LT (H : Hp) (p : Addr) (xs : List V) : Prop := H p = some (.lst xs) ∨ H p = some (.tup xs)
theorem LT.one {H Hc H' : Hp} {p : Addr} {xs : List V} (h : LT H p xs) (k1 : Same H Hc) (k2 : Same H H') : ∀ o, Hc p = some o → H' p = some o := fun o e => by
  rcases h with h | h
  · cases (k1 _ _ h).symm.trans e
    exact k2 _ _ h
  · cases (k1 _ _ h).symm.trans e
    exact k2 _ _ h
theorem LT.up {H H' : Hp} {p : Addr} {xs : List V} (h : LT H p xs) (k : Same H H') : LT H' p xs := h.elim (fun h => .inl (k _ _ h)) fun h => .inr (k _ _ h)
theorem rd_forV {i : Nat} {p : Addr} {s : TS} {D : Ends} (hv : σ[i]? = some (some (.ref p))) (h : LT H p xs) (Pv : Nat → St → Hp → Prop) (h0 : Pv 0 σ H) (hl : ∀ i σ' H', Pv i σ' H' → ∀ o, H p = some o → H' p = some o)
    (hs : ∀ i x σ' H', xs[i]? = some x → Pv i σ' H' → g x σ' H' fun σ2 H2 => s { D with nx := Pv (i + 1), ct := Pv (i + 1), bk := D.nx } σ2 H2) (hd : ∀ σ' H', Pv xs.length σ' H' → D.nx σ' H') : tFor (iAny K (tVar i)) g s D σ H := by
  rcases h with h | h
  · exact rd_forL (rd_var hv ⟨p, rfl, ⟨xs, SqL.of h⟩, for_it walk_list Pv h0 (fun i σ' H' _ q => SqL.of (hl i σ' H' q _ h)) (fun i x σ' H1 H2 hi hP y => by rw [y.1]; exact hs i x σ' H1 y.2 hP) hd⟩)
  · exact rd_forT (rd_var hv ⟨p, rfl, ⟨xs, SqT.of h⟩, for_it walk_tup Pv h0 (fun i σ' H' _ q => SqT.of (hl i σ' H' q _ h)) (fun i x σ' H1 H2 hi hP y => by rw [y.1]; exact hs i x σ' H1 y.2 hP) hd⟩)
/-- [.. for i in range(n)] -/
theorem rd_imR {H : Hp} {σ : St} {vs : List Nat} {g : TG} {tt : TT} {te : TE} {Q : VK} {n : Int} {p : Nat → Bool} {out : Nat → PyData} (b0 : 0 ≤ n) (b1 : n ≤ 1000000) (t : ImT (fun i : Nat => .int (i : Int)) out p (List.range n.toNat) g tt te vs σ H)
    (hd : ∀ D H' ys, H D = none → Same H H' → H' D = some (.lst ys) → ImAll H' ys (((List.range n.toNat).filter p).map out) → Q (.ref D) H') : ∃ j : Int, [V.int n] = [.int j] ∧ -(2 ^ 62) ≤ j ∧ j < 2 ^ 62 ∧ LcW (Itr 0 j.toNat) g tt te vs σ H Q := by
  refine rd_clR (by omega) (by omega) (fun D i H' => ImP (fun i : Nat => .int (i : Int)) out p (List.range n.toNat) H D i H') (fun D hD => ImP.zero hD) (fun D i H' hD hi hP => ?_) (fun D H' hD hP => ?_)
  · exact ImP.step (y := i) (by rw [List.length_range]; omega) t hD (by rw [List.getElem?_range (by omega)]) (.int _) hP
  · obtain ⟨k, ys, hys, im'⟩ := hP
    rw [List.take_of_length_le (by rw [List.length_range]; exact Nat.le_refl _)] at im'
    exact hd D H' ys hD k hys im'
end
end Mine
namespace Mine
open PySem PySem.Spec PyProof.Rows L2
theorem rd_iteS {σ : St} {H : Hp} {Q : VK} {c : Bool} {a b : Str} (q : Q (.str (if c = true then a else b)) H) : if c = true then tC (.str a) σ H Q else tC (.str b) σ H Q := by
  cases c <;> exact q
end Mine

/-! ## Exceptions of own classes: raised, let out, caught -/
namespace Mine
open PySem PySem.Spec PyProof.Rows L2
set_option linter.all false
/-- an own class over ValueError, however deep, made with a text -/
structure ExcF (K : PySem.W.Frag) (mg : Str → Option Value) (x : Str) (C : Addr) : Prop where
  g : mg x = some (.ref C)
  x : PySem.W.excIn K C [.type "ValueError", .type "Exception", .type "BaseException", .type "object"] "ValueError.__new__" = true
  k : PySem.W.keepIn K (.ref C) = true
  b : PySem.W.subIn K (.ref C) (.type "BaseException") = some true
  t : PySem.W.typeIn K (.ref C) = some (.type "type")
  i : PySem.W.isClsIn K C = true
theorem exm_to {K : PySem.W.Frag} {C D : Addr} {b : Bool} (h1 : PySem.W.subIn K (.ref D) (.type "BaseException") = some true) (h2 : PySem.W.isClsIn K D = true) (h3 : PySem.W.typeIn K (.ref D) = some (.type "type")) (h4 : PySem.W.subIn K (.ref C) (.ref D) = some b) :
    PySem.W.exmOne K (.ref C) (.ref D) = some b := by
  have e1 : (PySem.W.subIn K (.ref D) (.type "BaseException") == some true) = true := by rw [h1] <;> rfl
  have e2 : ((PySem.W.clsIn K D).isSome && PySem.W.typeIn K (.ref D) == some (.type "type")) = true := by
    have h2' : (PySem.W.clsIn K D).isSome = true := h2
    rw [h2', h3] <;> rfl
  show (if (PySem.W.subIn K (.ref D) (.type "BaseException") == some true) = true then (if ((PySem.W.clsIn K D).isSome && PySem.W.typeIn K (.ref D) == some (.type "type")) = true then PySem.W.subIn K (.ref C) (.ref D) else none) else none) = some b
  rw [if_pos e1, if_pos e2]
  exact h4
theorem ExcF.m {K : PySem.W.Frag} {mg : Str → Option Value} {y : Str} {C D : Addr} {b : Bool} (e : ExcF K mg y D) (h : PySem.W.subIn K (.ref C) (.ref D) = some b) : PySem.W.exmOne K (.ref C) (.ref D) = some b := exm_to e.b e.i e.t h
theorem ExcF.one {K : PySem.W.Frag} {mg : Str → Option Value} {x : Str} {C D : Addr} (e : ExcF K mg x C) (f : mg x = some (.ref D)) : D = C := by
  have := e.g.symm.trans f
  cases this
  rfl
/-- promises that tell what is raised, too -/
abbrev sp1x (Φ : V → Hp → VK → XK → Prop) : Sp := fun vs H Q E => ∃ a, vs = [a] ∧ Φ a H Q E
abbrev sp2x (Φ : V → V → Hp → VK → XK → Prop) : Sp := fun vs H Q E => ∃ a b, vs = [a, b] ∧ Φ a b H Q E
abbrev sp3x (Φ : V → V → V → Hp → VK → XK → Prop) : Sp := fun vs H Q E => ∃ a b c, vs = [a, b, c] ∧ Φ a b c H Q E
abbrev sp4x (Φ : V → V → V → V → Hp → VK → XK → Prop) : Sp := fun vs H Q E => ∃ a b c d, vs = [a, b, c, d] ∧ Φ a b c d H Q E
abbrev sp5x (Φ : V → V → V → V → V → Hp → VK → XK → Prop) : Sp := fun vs H Q E => ∃ a b c d e, vs = [a, b, c, d, e] ∧ Φ a b c d e H Q E
section
variable {X : Cx} {CX : CXT} {k : Nat} {ps : List Str} {sp : Sp} {E : St → XK} {x : Str} {st : Stmt} {p pos : Pos} {e : Expr} {es : List Expr} {t tk : TA} {kws : List Keyword}
theorem run_keepsS {pins : List (Addr × Obj)} {σ : St} {H : Hp} {s : Shared} {Q : VK} {args : List Value} {kwargs : List (Str × Value)} {us : List Value} {vs : List V} {f : Addr} {fd : FuncData} (O : Keeps X.prog X.w X.K X.mg X.base CX k f fd ps sp)
    (hr : Rm k X.A) (hx : PassesAt CX X σ (E σ)) (I : Inv X pins σ H s) (b : BindsTo s fd ⟨args, kwargs⟩ (ps.zip us)) (r : Vals vs us) (h : sp vs H Q (E σ)) :
    wpAny (model X.prog X.w) X.A (call (.ref f) args kwargs) (EP X pins σ Q) X.xe s := by
  have run := O.2 X.A X.stack s H ⟨args, kwargs⟩ us vs Q (E σ) hr I.env0 b r h
  refine wpAny_call (codeAny_mono run ?_)
  intro res s2 hres
  match res, hres with
  | .error e, hres => exact hx pins H s e s2 I hres
  | .ok (.ret u), hres => exact I.after hres
theorem pe_calS (C : Cal X.prog X.w X.K X.mg X.base CX k x st ps sp) (hr : Rm k X.A) (hg : Gl X x) (hx : ∀ σ, PassesAt CX X σ (E σ)) (ha : PA X (e :: es) t)
    (hdb : (x == ("__debug__" : Str)) = false := by decide) (he : starEach (e :: es) X.env = (false, eval e X.env) :: starEach es X.env := by rfl) (hpl : (backTo pos (starEach es X.env)).any (·.1) = false := by rfl) :
    PE X (.Call (.Name x p) (e :: es) [] pos) (tCallS sp E t) := by
  obtain ⟨f, fd, F, hm, B, O⟩ := C
  constructor
  intro pins s σ H Q I h
  refine wpAny_Call_Name_kw (ld_glob I hg hm ?_ hdb)
  refine PySem.W.callWith_K (h₀ := X.base) I.ok.mod.kin F.kp (thn (ha.run pos pins s σ H _ I h) ?_) he hpl
  rintro us s1 ⟨vs, H1, I1, r, q⟩
  refine And.intro I1.kIn ?_
  have hl : (us ++ []).length = ps.length := by
    rw [List.append_nil, ← Vals.length r]
    exact O.1 _ _ _ _ q
  have b := B s1 us I1.kIn hl
  rw [List.append_nil] at b
  exact run_keepsS O hr (hx σ) I1 b r q
def tCalKS (n m : Nat) (pm : List Nat) (sp : Sp) (E : St → XK) (t tk : TA) : TE := fun σ H Q => t σ H fun vs H1 => tk σ H1 fun zs H2 => vs.length = n ∧ zs.length = m ∧ sp (gK pm vs zs) H2 Q (E σ)
theorem pe_calKS {n : Nat} {ks : List Str} {pm : List Nat} (C : Cal X.prog X.w X.K X.mg X.base CX k x st ps sp) (hr : Rm k X.A) (hg : Gl X x) (hb : KwOk x st ps n ks pm) (hx : ∀ σ, PassesAt CX X σ (E σ))
    (ha : PA X (e :: es) t) (hkw : PK X kws tk) (hall : (backToKw pos (keywordEach kws X.env)).all (·.1.isSome) = true := by rfl) (hks : (backToKw pos (keywordEach kws X.env)).filterMap (·.1) = ks := by rfl)
    (hdb : (x == ("__debug__" : Str)) = false := by decide) (he : starEach (e :: es) X.env = (false, eval e X.env) :: starEach es X.env := by rfl)
    (hpl : ((backTo pos (starEach (e :: es) X.env)).any (·.1) || (backToKw pos (keywordEach kws X.env)).any (·.1.isNone)) = false := by rfl) :
    PE X (.Call (.Name x p) (e :: es) kws pos) (tCalKS n ks.length pm sp E t tk) := by
  obtain ⟨f, fd, F, hm, B, O⟩ := C
  constructor
  intro pins s σ H Q I h
  refine wpAny_Call_Name_kw (ld_glob I hg hm ?_ hdb)
  refine PySem.W.callWith_KW (h₀ := X.base) I.ok.mod.kin F.kp hall (thn (ha.run pos pins s σ H _ I h) ?_) hpl he
  rintro us s1 ⟨vs, H1, I1, r, q⟩
  refine thn (hkw.run pos pins s1 σ H1 _ I1 q) ?_
  rintro ws s2 ⟨zs, H2, I2, rz, l1, l2, q2⟩
  refine And.intro I2.kIn ?_
  rw [hks]
  exact run_keepsS O hr (hx σ) I2 (kw_binds F hb s2 (by have := Vals.length r; simpa [this] using l1) (by rw [← Vals.length rz]; exact l2)) (gK_rel r rz) q2
theorem pe_calK0S {ks : List Str} {pm : List Nat} (C : Cal X.prog X.w X.K X.mg X.base CX k x st ps sp) (hr : Rm k X.A) (hg : Gl X x) (hb : KwOk x st ps 0 ks pm) (hx : ∀ σ, PassesAt CX X σ (E σ))
    (hkw : PK X kws tk) (hall : (backToKw pos (keywordEach kws X.env)).all (·.1.isSome) = true := by rfl) (hks : (backToKw pos (keywordEach kws X.env)).filterMap (·.1) = ks := by rfl)
    (hdb : (x == ("__debug__" : Str)) = false := by decide)
    (hpl : ((backTo pos (starEach [] X.env)).any (·.1) || (backToKw pos (keywordEach kws X.env)).any (·.1.isNone)) = false := by rfl) :
    PE X (.Call (.Name x p) [] kws pos) (tCalKS 0 ks.length pm sp E tNil tk) := by
  obtain ⟨f, fd, F, hm, B, O⟩ := C
  constructor
  intro pins s σ H Q I h
  refine wpAny_Call_Name_kw (ld_glob I hg hm ?_ hdb)
  refine PySem.W.callWith_KW0 (h₀ := X.base) I.ok.mod.kin F.kp hall ?_ hpl
  have h' : tk σ H fun zs H2 => ([] : List V).length = 0 ∧ zs.length = ks.length ∧ sp (gK pm [] zs) H2 Q (E σ) := h
  refine thn (hkw.run pos pins s σ H _ I h') ?_
  rintro ws s2 ⟨zs, H2, I2, rz, l1, l2, q2⟩
  refine And.intro I2.kIn ?_
  rw [hks]
  exact run_keepsS (us := gK pm [] ws) O hr (hx σ) I2 (kw_binds F hb s2 (us := []) rfl (by rw [← Vals.length rz]; exact l2)) (gK_rel .nil rz) q2
end
/-! ### raise, try -/
def tRaise (C : Addr) (W : WX) : TS := fun _ σ H => W (.ref C) none σ H
theorem ps_raiseX {X : Cx} {W : WX} {x m : Str} {j : Nat} {C : Addr} {p p2 p3 pos : Pos} (hc : X.calm = true) (tk : Takes X W) (e : ExcF X.K X.mg x C) (hg : Gl X x) (hdb : (x == ("__debug__" : Str)) = false := by decide) :
    PS X (.Raise (some (.Call (.Name x p) [.Constant (.str m) j p2] [] p3)) none pos) (tRaise C W) :=
  ps_raise hc tk (pmk_own PySem.F.excBase_ValueError e.x e.g e.k (raises_own e.b e.t) hg hdb)
def tTryO (K : PySem.W.Frag) (C : Addr) (tb : WX → TS) (ts : Addr → Value → Option Addr → TS) (Wout : WX) : TS := fun D σ H => tb (wOnly K (.ref C) ts Wout D) D σ H
def tTryM (K : PySem.W.Frag) (l : List (Value × (Addr → Value → Option Addr → TS))) (tb : WX → TS) (Wout : WX) : TS := fun D σ H => tb (wMany K Wout D l) D σ H
def tTryA (K : PySem.W.Frag) (C : Addr) (i : Nat) (tb : WX → TS) (ts : Addr → Value → Option Addr → TS) (Wout : WX) : TS := fun D σ H => tb (wAs K (.ref C) i ts Wout D) D σ H
section
variable {X : Cx} {K : PySem.W.Frag} {x n : Str} {C : Addr} {i : Nat} {body suite : List Stmt} {b₀ : Stmt} {np pos pos' : Pos} {tb : WX → TS} {ts : Addr → Value → Option Addr → TS} {Wout : WX}
theorem names_of (e : ExcF X.K X.mg x C) (hg : Gl X x) (hdb : (x == ("__debug__" : Str)) = false := by decide) : Names X x (.ref C) := ⟨hg, hdb, .inl e.g⟩
theorem ps_tryO (hs : X.stack = X.env :: X.outer) (hf : X.env.frame = some X.env.locals) (hc : Names X x (.ref C)) (tk : Takes X Wout) (ek : X.K = K)
    (hb : ∀ (W : WX) (pn : List (Addr × Obj)) (xe : Value → Shared → Prop), Takes (X.tr pn xe) W → PassesOwn (model X.prog X.w) X.A X.env xe → PSs (X.tr pn xe) body (tb W))
    (hsu : ∀ (a : Addr) (oe : Obj) (cls : Value) (d : Option Addr) (pn : List (Addr × Obj)), Zc cls d oe → (∃ vs, oe.data = .fields vs) → PSs (X.suite a ((a, oe) :: pn)) (b₀ :: suite) (ts a cls d)) :
    PS X (.Try body [.ExceptHandler (some (.Name x np)) none (b₀ :: suite) pos'] [] [] pos) (tTryO K C tb ts Wout) := by
  subst ek
  exact ps_try_only hs hf hc tk hb hsu
theorem ps_tryM {h₀ : ExceptHandler} {hds : List ExceptHandler} {l : List (Value × (Addr → Value → Option Addr → TS))} (hs : X.stack = X.env :: X.outer) (hf : X.env.frame = some X.env.locals) (tk : Takes X Wout) (ek : X.K = K)
    (hb : ∀ (W : WX) (pn : List (Addr × Obj)) (xe : Value → Shared → Prop), Takes (X.tr pn xe) W → PassesOwn (model X.prog X.w) X.A X.env xe → PSs (X.tr pn xe) body (tb W))
    (hh : HdsOk X (h₀ :: hds) l) : PS X (.Try body (h₀ :: hds) [] [] pos) (tTryM K l tb Wout) := by
  subst ek
  exact ps_try_many hs hf tk hb hh
theorem ps_tryA (hs : X.stack = X.env :: X.outer) (hf : X.env.frame = some X.env.locals) (hN : X.N.Nodup) (hi : X.N[i]? = some n) (hln : X.env.kindOf n = some .local) (hc : Names X x (.ref C)) (tk : Takes X Wout) (ek : X.K = K)
    (hb : ∀ (W : WX) (pn : List (Addr × Obj)) (xe : Value → Shared → Prop), Takes (X.tr pn xe) W → PassesOwn (model X.prog X.w) X.A X.env xe → PSs (X.tr pn xe) body (tb W))
    (hsu : ∀ (a : Addr) (oe : Obj) (cls : Value) (d : Option Addr) (pn : List (Addr × Obj)), Zc cls d oe → (∃ vs, oe.data = .fields vs) → PSs (X.suite a ((a, oe) :: pn)) (b₀ :: suite) (ts a cls d)) :
    PS X (.Try body [.ExceptHandler (some (.Name x np)) (some n) (b₀ :: suite) pos'] [] [] pos) (tTryA K C i tb ts Wout) := by
  subst ek
  exact ps_try_as hs hf hN hi hln hc tk hb hsu
end
section
variable {σ : St} {H : Hp} {Q : VK} {D : Ends} {K : PySem.W.Frag} {C : Addr} {W Wout : WX} {tb : WX → TS} {ts : Addr → Value → Option Addr → TS} {cls : Value} {d : Option Addr} {i : Nat} {l : List (Value × (Addr → Value → Option Addr → TS))} {c : Value}
theorem rd_callS {sp : Sp} {E : St → XK} {tA : TA} (q : tA σ H fun vs H1 => sp vs H1 Q (E σ)) : tCallS sp E tA σ H Q := q
theorem rd_callKS {n m : Nat} {pm : List Nat} {sp : Sp} {E : St → XK} {t tk : TA} (q : t σ H fun vs H1 => tk σ H1 fun zs H2 => vs.length = n ∧ zs.length = m ∧ sp (gK pm vs zs) H2 Q (E σ)) : tCalKS n m pm sp E t tk σ H Q := q
theorem rd_raise (q : W (.ref C) none σ H) : tRaise C W D σ H := q
theorem rd_tryO (q : tb (wOnly K (.ref C) ts Wout D) D σ H) : tTryO K C tb ts Wout D σ H := q
theorem rd_tryM (q : tb (wMany K Wout D l) D σ H) : tTryM K l tb Wout D σ H := q
theorem rd_tryA (q : tb (wAs K (.ref C) i ts Wout D) D σ H) : tTryA K C i tb ts Wout D σ H := q
theorem rd_hit {c : Value} (e : PySem.W.exmOne K cls c = some true) (q : ∀ a, H a = none → ts a cls d D σ H) : wOnly K c ts Wout D cls d σ H := ⟨true, e, fun _ => q, fun h => nomatch h⟩
theorem rd_miss {c : Value} (e : PySem.W.exmOne K cls c = some false) (q : Wout cls d σ H) : wOnly K c ts Wout D cls d σ H := ⟨false, e, (fun h => nomatch h), fun _ => q⟩
theorem rd_hitM (e : PySem.W.exmOne K cls c = some true) (q : ∀ a, H a = none → ts a cls d D σ H) : wMany K Wout D ((c, ts) :: l) cls d σ H := ⟨true, e, fun _ => q, fun h => nomatch h⟩
theorem rd_missM (e : PySem.W.exmOne K cls c = some false) (q : wMany K Wout D l cls d σ H) : wMany K Wout D ((c, ts) :: l) cls d σ H := ⟨false, e, (fun h => nomatch h), fun _ => q⟩
theorem rd_hitA {c : Value} (e : PySem.W.exmOne K cls c = some true) (q : ∀ a, H a = none → ts a cls d { nx := fun σ' H' => D.nx (σ'.set i none) H', rt := D.rt, bk := fun σ' H' => D.bk (σ'.set i none) H', ct := fun σ' H' => D.ct (σ'.set i none) H' } (σ.set i (some (.ref a))) H) : wAs K c i ts Wout D cls d σ H := ⟨true, e, q |> fun q _ => q, fun h => nomatch h⟩
theorem rd_sp1x {Φ : V → Hp → VK → XK → Prop} {E : XK} {a : V} (q : Φ a H Q E) : sp1x Φ [a] H Q E := ⟨a, rfl, q⟩
theorem rd_sp2x {Φ : V → V → Hp → VK → XK → Prop} {E : XK} {a b : V} (q : Φ a b H Q E) : sp2x Φ [a, b] H Q E := ⟨a, b, rfl, q⟩
theorem rd_sp3x {Φ : V → V → V → Hp → VK → XK → Prop} {E : XK} {a b c : V} (q : Φ a b c H Q E) : sp3x Φ [a, b, c] H Q E := ⟨a, b, c, rfl, q⟩
theorem rd_sp4x {Φ : V → V → V → V → Hp → VK → XK → Prop} {E : XK} {a b c d : V} (q : Φ a b c d H Q E) : sp4x Φ [a, b, c, d] H Q E := ⟨a, b, c, d, rfl, q⟩
end
end Mine

/-! ## enumerate over a tuple and over a text, zip of two tuples -/
namespace PySem
namespace EnumX
open Sem (wp)
set_option maxHeartbeats 1000000 in
theorem new1 {v : Value} {o : Obj} {T : Heap → Prop} (B : Begins v o T) : Meets (Builtin.«enumerate.__new__» ⟨[.type "enumerate", v], []⟩) (fun _ R s => T s.heap ∧
    R (.ok (.ret (.ref (s.heap.push o).objs.size))) { s with heap := (s.heap.push o).push { cls := .type "enumerate", data := .fields #[.none, .bool false, .ref s.heap.objs.size, rawInt 0, .none, .none] } }) :=
  .of_wp fun prog w A R s q => by
    obtain ⟨hp, gs, dr, tk, os⟩ := s
    obtain ⟨t0, q⟩ := q
    have sub := sub_enumerate
    have first : ∀ {A' : Around} {E : Value → Shared → Prop} {Q : Value → Shared → Prop}, Q (.ref hp.objs.size) ⟨hp.push o, gs, dr, tk, os⟩ → wpAny (model prog w) A' (pyIter v) Q E ⟨hp, gs, dr, tk, os⟩ := fun r => B.iter prog w _ _ ⟨hp, gs, dr, tk, os⟩ _ t0 r
    wp_walk using first
    refine wpAny_stack_any fun st => wpAny_pure ?_
    split
    · rename_i c _ _ _ _ _
      cases (c == Value.type "enumerate") <;> (wp_walk using first; exact ⟨_, rfl, q⟩)
    · wp_walk using first
      exact ⟨_, rfl, q⟩
theorem call1 {prog : Program} {w : World} {A : Around} {E : Value → Shared → Prop} {s : Shared} {v : Value} {o : Obj} {T : Heap → Prop} {Q : Value → Shared → Prop} (B : Begins v o T) (t0 : T s.heap)
    (q : ∀ h', IsEnum h' (s.heap.objs.size + 1) s.heap.objs.size 0 .none → h'.get? s.heap.objs.size = some o → (∀ b o, s.heap.get? b = some o → h'.get? b = some o) → Q (.ref (s.heap.objs.size + 1)) { s with heap := h' }) :
    wpAny (model prog w) A (call (.type "enumerate") [v]) Q E s := by
  refine callType_new F.called_enumerate (by decide) (F.typeCall_enumerate_1 _) (F.newCall_enumerate_1 _) (fun obj => F.args_object_init_2 obj _) F.entry_enumerate_new (new1 B) ⟨t0, ?_⟩
  have sz : (s.heap.push o).objs.size = s.heap.objs.size + 1 := Heap.size_push ..
  show _ ∧ _
  rw [sz]
  have he : IsEnum ((s.heap.push o).push { cls := .type "enumerate", data := .fields #[.none, .bool false, .ref s.heap.objs.size, rawInt 0, .none, .none] }) (s.heap.objs.size + 1) s.heap.objs.size 0 .none := by
    have z := Heap.get?_push_size (s.heap.push o) (o := { cls := .type "enumerate", data := .fields #[.none, .bool false, .ref s.heap.objs.size, rawInt 0, .none, .none] }) rfl
    rw [sz] at z
    exact z
  exact ⟨⟨_, he, rfl⟩, q _ he (Heap.get?_push_of_some _ (Heap.get?_push_size _ B.free)) fun b o x => Heap.get?_push_of_some _ (Heap.get?_push_of_some _ x)⟩
end EnumX
end PySem
namespace Mine
open PySem PySem.Spec PyProof.Rows L2
set_option linter.all false
/-- what is told by S, each item in a new pair behind its index -/
def ItE (S : Hp → List V → Prop) : It := ⟨fun i H => ∃ (xs : List V) (x : V), S H xs ∧ xs[i]? = some x, fun i H v H' => ∃ T x, v = .ref T ∧ H T = none ∧ H' = upd H T (.tup [.int (i : Nat), x]) ∧ ∀ xs, S H xs → xs[i]? = some x, fun i H => ∃ xs : List V, S H xs ∧ xs.length = i⟩
/-- what draws the items of S from an iterator at it -/
structure Src (P : Program) (w : World) (K : PySem.W.Frag) (it : Addr) (Sit : Nat → Heap → Prop) (S : Hp → List V → Prop) : Prop where
  has : ∀ i h, Sit i h → ∃ o, h.get? it = some o ∧ ∀ v, o.data ≠ .cell v
  kept : ∀ i h h', Sit i h → (∀ o, h.get? it = some o → h'.get? it = some o) → Sit i h'
  draw : ∀ {X : Cx} {pins : List (Addr × Obj)} {σ : St} {H : Hp} {s : Shared} {xs : List V}, X.prog = P → X.w = w → X.K = K → X.calm = true → Inv X pins σ H s → S H xs → FpOk X pins H it → (∀ i, Sit i s.heap → ∃ (fp : List Addr) (Pr : Nat → Value → Prop) (St : Nat → Heap → Prop),
    Draws P w X.A.in1 it fp xs.length Pr St ∧ St i s.heap ∧ (∀ i h, St i h → Sit i h) ∧ (∀ e c old, IsEnum s.heap e it c old → e ≠ it → e ∉ fp) ∧ ∀ j u x, Pr j u → xs[j]? = some x → RelV x u) ∧ ∀ ys, S H ys → ys = xs
theorem turn_enumS {P : Program} {w : World} {K : PySem.W.Frag} {elts : List Expr} {kk : Nat} {tpos : Pos} {e it : Addr} {Sit : Nat → Heap → Prop} {S : Hp → List V → Prop} (D : Src P w K it Sit S) :
    Turn P w K (.Tuple elts kk tpos) (ItE S) [e, it] e (fun i h => (∃ old, IsEnum h e it ((i : Nat) : Int) old) ∧ Sit i h ∧ e ≠ it) where
  mem := List.mem_cons_self
  obj := fun i h st b hb => by
    obtain ⟨⟨old, he⟩, si, _⟩ := st
    rcases List.mem_cons.mp hb with z | z
    · rw [z]
      exact ⟨_, he, fun v q => nomatch q⟩
    · rw [List.mem_singleton.mp z]
      exact D.has i h si
  keep := fun i h h' st k => ⟨st.1.elim fun old he => ⟨old, k e List.mem_cons_self _ he⟩, D.kept i h h' st.2.1 fun o q => k it (List.mem_cons_of_mem _ List.mem_cons_self) o q, st.2.2⟩
  item := by
    intro X hP hw hK hc i pins s σ H E I hf st hg
    obtain ⟨⟨old, he⟩, si, hne⟩ := st
    obtain ⟨xs, x, hS, hx⟩ := hg
    obtain ⟨dr, inj⟩ := D.draw hP hw hK hc I hS (hf it (List.mem_cons_of_mem _ List.mem_cons_self))
    obtain ⟨fp, Pr, St, dw, st0, back, hef, rel⟩ := dr i si
    have lt : i < xs.length := (List.getElem?_eq_some_iff.mp hx).1
    have el : e < s.heap.objs.size := Heap.lt_size he
    have il : it < s.heap.objs.size := (D.has i _ si).elim fun o q => Heap.lt_size q.1
    refine wpAny_pyNext_enum_itemD dw he st0 lt hne (hef e _ _ he hne) fun u h' tk hu ho st1 hT hsz hk => ?_
    refine ⟨_, rfl, wpAny_letOwnedTupleGo_enum (s := { s with heap := h', toks := tk + 1 }) ho fun h'' he' sb => ?_⟩
    have hT2 : h''.get? s.heap.objs.size = some { cls := .type "tuple", data := .seq #[.int i tk, u] } := (sb.2 _ (Nat.ne_of_gt el)).trans hT
    have new : ObjOk P w (upd H s.heap.objs.size (.tup [.int (i : Nat), x])) h'' s.heap.objs.size (.tup [.int (i : Nat), x]) := ⟨by show 2 ≤ sizeLine; decide, [.int i tk, u], .cons ⟨_, rfl⟩ (.cons (rel i u x hu hx) .nil), ⟨_, hT2, rfl, _, rfl⟩⟩
    subst hP hw
    have I1 : Inv X pins σ (upd H s.heap.objs.size (.tup [.int (i : Nat), x])) { s with heap := h'', toks := tk + 1 } := I.turnedNew (ch := [e, it]) (fun b ob hb q => by
      have b1 : b ≠ e := fun z => hb (by rw [z]; exact List.mem_cons_self)
      have b2 : b ≠ it := fun z => hb (by rw [z]; exact List.mem_cons_of_mem _ List.mem_cons_self)
      exact (sb.2 b b1).trans (hk b ob b1 b2 q)) hf (Nat.le_refl _) new
    refine ⟨.ref s.heap.objs.size, _, I1, rfl, ⟨_, x, rfl, I.hok.fresh (Nat.le_refl _), rfl, fun ys hy => by rw [inj ys hy]; exact hx⟩, ⟨⟨u, ?_⟩, D.kept _ _ _ (back _ _ st1) fun o q => (sb.2 it (Ne.symm hne)).trans q, hne⟩, fun b hb => ?_⟩
    · rw [show ((i + 1 : Nat) : Int) = (i : Int) + 1 by omega]
      exact he'
    · have lb : b < s.heap.objs.size := by
        rcases List.mem_cons.mp hb with z | z
        · rw [z]; exact el
        · rw [List.mem_singleton.mp z]; exact il
      rw [upd_ne (Nat.ne_of_lt lb)]
      exact (hf b hb).1
  done := by
    intro X hP hw hK hc i pins s σ H E I hf st hg
    obtain ⟨⟨old, he⟩, si, hne⟩ := st
    obtain ⟨xs, hS, rfl⟩ := hg
    obtain ⟨dr, _⟩ := D.draw hP hw hK hc I hS (hf it (List.mem_cons_of_mem _ List.mem_cons_self))
    obtain ⟨fp, Pr, St, dw, st0, _⟩ := dr _ si
    obtain ⟨a0, a1, a2, a3, a4, a5⟩ := hf it (List.mem_cons_of_mem _ List.mem_cons_self)
    exact wpAny_pyNext_enum_endD dw he st0 fun h' eb => ⟨rfl, I.turned (t' := s.toks) (fun b o hb q => eb b o hb q) a0 a1 a3 a4 a5⟩
  self := fun A i s Q E st h => st.1.elim fun _ he => wpAny_pyIter_enum he h
theorem src_tup {P : Program} {w : World} {K : PySem.W.Frag} {it a : Addr} : Src P w K it (fun i h => h.IsTupleIter it a i) (fun H xs => SqT K H a xs) where
  has := fun i h ⟨o, ho, hc, hd⟩ => ⟨o, ho, fun v z => by rw [hd] at z; cases z⟩
  kept := fun i h h' x k => x.at k
  draw := fun {X pins σ H s xs} hP hw hK hc I hS f => by
    subst hP hw hK
    obtain ⟨its, rv, p, _⟩ := I.tuple hS
    obtain ⟨oa, pa, pc, _⟩ := id p
    refine ⟨fun i si => ⟨[it, a], fun i v => its.toArray[i]? = some v, fun i h => h.IsTupleIter it a i ∧ h.IsTuple a its.toArray, ?_, ⟨si, p⟩, fun _ _ z => z.1, fun e c old he hne hm => ?_, fun j u x hu hx => ?_⟩, fun ys hy => I.tuple_inj hy hS⟩
    · have ne : a ≠ it := fun z => by
        obtain ⟨oi, h1, h2, _⟩ := si
        rw [z] at pa
        cases pa.symm.trans h1
        rw [pc] at h2
        exact absurd h2 (by decide)
      have z := Draws.tuple (prog := X.prog) (w := X.w) (A := X.A.in1) (I.ok.hd hc) it a ne its.toArray
      rwa [List.size_toArray, ← rv.length] at z
    · rcases List.mem_cons.mp hm with z | z
      · exact hne z
      · rw [List.mem_singleton.mp z] at he
        cases pa.symm.trans he
        have q : Value.type "enumerate" = Value.type "tuple" := pc
        exact absurd q (by decide)
    · obtain ⟨u', h1, h2⟩ := rv.get hx
      have hu : its.toArray[j]? = some u := hu
      rw [List.getElem?_toArray, h1] at hu
      cases hu
      exact h2
theorem src_str {P : Program} {w : World} {K : PySem.W.Frag} {it : Addr} {z : Str} {t : Tok} : Src P w K it (fun i h => h.IsStrIter it (strIterType z) z t i) (fun _ xs => xs = z.cps.toList.map fun c => V.str ⟨#[c]⟩) where
  has := fun i h ⟨o, ho, hc, hd⟩ => ⟨o, ho, fun v z => by rw [hd] at z; cases z⟩
  kept := fun i h h' ⟨o, ho, r⟩ k => ⟨o, k o ho, r⟩
  draw := fun {X pins σ H s xs} hP hw hK hc I hS f => by
    subst hP hw hK hS
    refine ⟨fun i si => ⟨[it], fun i v => ∃ c u, z.cps[i]? = some c ∧ v = .str ⟨#[c]⟩ u, fun i h => h.IsStrIter it (strIterType z) z t i, ?_, si, fun _ _ z => z, fun e c old he hne hm => hne (List.mem_singleton.mp hm), fun j u x hu hx => ?_⟩, fun ys hy => hy⟩
    · have q := Draws.text (prog := X.prog) (w := X.w) (A := X.A.in1) (I.ok.hd hc) it z t
      rwa [show (z.cps.toList.map fun c => V.str ⟨#[c]⟩).length = z.cps.size by simp]
    · obtain ⟨c, u', h1, rfl⟩ := hu
      rw [List.getElem?_map] at hx
      simp at hx
      obtain ⟨c', h2, rfl⟩ := hx
      rw [h1] at h2
      cases h2
      exact ⟨u', rfl⟩
section
variable {X : Cx} {K : PySem.W.Frag} {e : Expr} {ta : TA} {p pos tpos : Pos} {elts : List Expr} {kk : Nat}
def iEnT (K : PySem.W.Frag) (ta : TA) : TI := fun σ H R => ta σ H fun vs H1 => ∃ a xs, vs = [.ref a] ∧ SqT K H1 a xs ∧ R (ItE fun H xs => SqT K H a xs) H1
def iEnS (ta : TA) : TI := fun σ H R => ta σ H fun vs H1 => ∃ z : Str, vs = [.str z] ∧ R (ItE fun _ xs => xs = z.cps.toList.map fun c => V.str ⟨#[c]⟩) H1
theorem new_two {pins : List (Addr × Obj)} {σ : St} {H : Hp} {s : Shared} (I : Inv X pins σ H s) : ∀ b ∈ [s.heap.objs.size + 1, s.heap.objs.size], FpOk X pins H b := fun b hb => by
  have le : s.heap.objs.size ≤ b := by
    rcases List.mem_cons.mp hb with z | z
    · rw [z]; exact Nat.le_add_right _ _
    · rw [List.mem_singleton.mp z]; exact Nat.le_refl _
  exact I.fpOk le (I.hok.fresh le)
theorem pi_enumT (hg : Gl X "enumerate") (hm : X.mg "enumerate" = none) (ha : PA X [e] ta) (ek : X.K = K := by rfl) (hs : starEach [e] X.env = [(false, eval e X.env)] := by rfl) : PI X (.Tuple elts kk tpos) (.Call (.Name "enumerate" p) [e] [] pos) (iEnT K ta) := by
  subst ek
  refine ⟨fun pins s σ H R I h => Call_ (ld_blt I hg hm boot_enumerate (PyProof.Rows.callWith_type1 (thn (ha.run pos pins s σ H _ I h) fun us s1 ⟨vs, H1, I1, r1, a, xs, ex, hq, q⟩ => ?_) hs rfl))⟩
  subst ex
  obtain ⟨u, rfl, r⟩ := vals1 r1
  cases r
  obtain ⟨its, rv, p', hz⟩ := I1.tuple hq
  refine PySem.EnumX.call1 (PySem.begins_tuple a its.toArray) p' fun h' he hit hk => wpAny_pyIter_enum he ?_
  exact ⟨s1.heap.objs.size + 1, [s1.heap.objs.size + 1, s1.heap.objs.size], _, _, H1, rfl, I1.kept (t' := s1.toks) hk, turn_enumS (e := s1.heap.objs.size + 1) (it := s1.heap.objs.size) src_tup, ⟨⟨.none, he⟩, ⟨_, hit, rfl, rfl⟩, Nat.succ_ne_self _⟩, new_two I1, q⟩
theorem pi_enumS (hg : Gl X "enumerate") (hm : X.mg "enumerate" = none) (ha : PA X [e] ta) (hs : starEach [e] X.env = [(false, eval e X.env)] := by rfl) : PI X (.Tuple elts kk tpos) (.Call (.Name "enumerate" p) [e] [] pos) (iEnS ta) := by
  refine ⟨fun pins s σ H R I h => Call_ (ld_blt I hg hm boot_enumerate (PyProof.Rows.callWith_type1 (thn (ha.run pos pins s σ H _ I h) fun us s1 ⟨vs, H1, I1, r1, z, ex, q⟩ => ?_) hs rfl))⟩
  subst ex
  obtain ⟨u, rfl, t, rfl⟩ := vals1 r1
  refine PySem.EnumX.call1 (PySem.begins_text z t) trivial fun h' he hit hk => wpAny_pyIter_enum he ?_
  exact ⟨s1.heap.objs.size + 1, [s1.heap.objs.size + 1, s1.heap.objs.size], _, _, H1, rfl, I1.kept (t' := s1.toks) hk, turn_enumS (e := s1.heap.objs.size + 1) (it := s1.heap.objs.size) src_str, ⟨⟨.none, he⟩, ⟨_, hit, rfl, rfl⟩, Nat.succ_ne_self _⟩, new_two I1, q⟩
def iZipT (K : PySem.W.Frag) (ta : TA) : TI := fun σ H R => ta σ H fun vs H1 => ∃ a b xs ys, vs = [.ref a, .ref b] ∧ ((SqL K H1 a xs ∧ SqL K H1 b ys ∧ R (Itz K a b) H1) ∨ (SqT K H1 a xs ∧ SqT K H1 b ys ∧ R (RZ.ItzT K a b) H1))
theorem pi_zipT {e2 : Expr} (hg : Gl X "zip") (hm : X.mg "zip" = none) (ha : PA X [e, e2] ta) (ek : X.K = K := by rfl)
    (hs : starEach [e, e2] X.env = (false, eval e X.env) :: starEach [e2] X.env := by rfl) (hpl : (backTo pos (starEach [e2] X.env)).any (·.1) = false := by rfl) : PI X (.Tuple elts kk tpos) (.Call (.Name "zip" p) [e, e2] [] pos) (iZipT K ta) := by
  subst ek
  exact RZ.pi_zipA hg hm ha hs hpl
end
section
variable {K : PySem.W.Frag} {a b : Addr} {xs ys : List V} {H : Hp} {σ : St} {g : TG} {s : TS} {D : Ends} {tA : TA} {tt : TT} {te : TE} {vs : List Nat} {Q : VK}
theorem walk_ItE {S : Hp → List V → Prop} : Walk (ItE S) xs.length (fun H => S H xs) (YPair (fun i => some (.int (i : Nat))) (fun i => xs[i]?)) := by
  refine ⟨fun i _ hi q => ⟨xs, xs[i], q, List.getElem?_eq_getElem hi⟩, fun _ q => ⟨xs, q, rfl⟩, fun i H v H' _ q y => ?_⟩
  obtain ⟨T, x, y1, y2, y3, y4⟩ := y
  exact ⟨T, .int (i : Nat), x, y1, y2, y3, rfl, y4 xs q⟩
theorem walk_ItzT {n : Nat} (hn : n = min xs.length ys.length) : Walk (RZ.ItzT K a b) n (fun H => SqT K H a xs ∧ SqT K H b ys) (YPair (fun i => xs[i]?) (fun i => ys[i]?)) := by
  subst hn
  refine ⟨fun i _ hi q => ?_, fun _ q => ⟨xs, ys, q.1, q.2, by omega⟩, fun i H v H' _ q y => ?_⟩
  · have l1 : i < xs.length := by omega
    have l2 : i < ys.length := by omega
    exact ⟨xs, ys, xs[i], ys[i], q.1, q.2, List.getElem?_eq_getElem l1, List.getElem?_eq_getElem l2⟩
  · obtain ⟨T, x, z, y1, y2, y3, y4, y5⟩ := y
    exact ⟨T, x, z, y1, y2, y3, y4 xs q.1, y5 ys q.2⟩
theorem rd_forET (q : tA σ H fun vs H1 => ∃ a xs, vs = [.ref a] ∧ SqT K H1 a xs ∧ ForW (ItE fun H xs => SqT K H a xs) g s D σ H1) : tFor (iEnT K tA) g s D σ H := q
theorem rd_forES (q : tA σ H fun vs H1 => ∃ z : Str, vs = [.str z] ∧ ForW (ItE fun _ xs => xs = z.cps.toList.map fun c => V.str ⟨#[c]⟩) g s D σ H1) : tFor (iEnS tA) g s D σ H := q
theorem rd_lcET (q : tA σ H fun ws H1 => ∃ a xs, ws = [.ref a] ∧ SqT K H1 a xs ∧ LcW (ItE fun H xs => SqT K H a xs) g tt te vs σ H1 Q) : tLc (iEnT K tA) g tt te vs σ H Q := q
theorem rd_lcES (q : tA σ H fun ws H1 => ∃ z : Str, ws = [.str z] ∧ LcW (ItE fun _ xs => xs = z.cps.toList.map fun c => V.str ⟨#[c]⟩) g tt te vs σ H1 Q) : tLc (iEnS tA) g tt te vs σ H Q := q
theorem rd_itET (h : SqT K H a xs) (Pv : Nat → St → Hp → Prop) (h0 : Pv 0 σ H) (hl : ∀ i σ H, i ≤ xs.length → Pv i σ H → SqT K H a xs)
    (hs : ∀ i x T σ H, xs[i]? = some x → Pv i σ H → H T = none → g (.ref T) σ (upd H T (.tup [.int (i : Int), x])) fun σ2 H2 => s { D with nx := Pv (i + 1), ct := Pv (i + 1), bk := D.nx } σ2 H2) (hd : ∀ σ H, Pv xs.length σ H → D.nx σ H) :
    ∃ c ys, [V.ref a] = [.ref c] ∧ SqT K H c ys ∧ ForW (ItE fun H xs => SqT K H c xs) g s D σ H := by
  refine ⟨a, xs, rfl, h, for_it (walk_ItE (S := fun H xs => SqT K H a xs)) Pv h0 hl ?_ hd⟩
  rintro i x τ H1 H2 hi hP ⟨T, u, y, rfl, hT, rfl, hu, hy⟩
  cases hu
  exact hs i y T τ H1 hy hP hT
theorem rd_itES {z : Str} (Pv : Nat → St → Hp → Prop) (h0 : Pv 0 σ H)
    (hs : ∀ i c T σ H, z.cps.toList[i]? = some c → Pv i σ H → H T = none → g (.ref T) σ (upd H T (.tup [.int (i : Int), .str ⟨#[c]⟩])) fun σ2 H2 => s { D with nx := Pv (i + 1), ct := Pv (i + 1), bk := D.nx } σ2 H2) (hd : ∀ σ H, Pv z.cps.toList.length σ H → D.nx σ H) :
    ∃ y, [V.str z] = [.str y] ∧ ForW (ItE fun _ xs => xs = y.cps.toList.map fun c => V.str ⟨#[c]⟩) g s D σ H := by
  refine ⟨z, rfl, for_it (walk_ItE (xs := z.cps.toList.map fun c => V.str ⟨#[c]⟩) (S := fun _ xs => xs = z.cps.toList.map fun c => V.str ⟨#[c]⟩)) Pv h0 (fun _ _ _ _ _ => rfl) ?_ (by rw [List.length_map]; exact hd)⟩
  rintro i x τ H1 H2 hi hP ⟨T, u, y, rfl, hT, rfl, hu, hy⟩
  cases hu
  have hy : (z.cps.toList.map fun c => V.str ⟨#[c]⟩)[i]? = some y := hy
  rw [List.getElem?_map] at hy
  obtain ⟨c, hc, rfl⟩ := Option.map_eq_some_iff.mp hy
  exact hs i c T τ H1 hc hP hT
theorem rd_clET (h : SqT K H a xs) (Pv : Addr → Nat → Hp → Prop) (h0 : ∀ D, H D = none → Pv D 0 (upd H D (.lst []))) (hG : ∀ D i H', H D = none → i ≤ xs.length → Pv D i H' → SqT K H' a xs)
    (hs : ∀ D i x T H', H D = none → xs[i]? = some x → Pv D i H' → H' T = none → LcT g tt te vs σ D (Pv D (i + 1)) (.ref T) (upd H' T (.tup [.int (i : Int), x]))) (hd : ∀ D H', H D = none → Pv D xs.length H' → Q (.ref D) H') :
    ∃ c ys, [V.ref a] = [.ref c] ∧ SqT K H c ys ∧ LcW (ItE fun H xs => SqT K H c xs) g tt te vs σ H Q := by
  refine ⟨a, xs, rfl, h, lc_by (walk_ItE (S := fun H xs => SqT K H a xs)) Pv h0 hG ?_ hd⟩
  rintro D i x H1 H2 hD hi hP ⟨T, u, y, rfl, hT, rfl, hu, hy⟩
  cases hu
  exact hs D i y T H1 hD hy hP hT
theorem rd_lcZT (q : tA σ H fun ws H1 => ∃ a b xs ys, ws = [.ref a, .ref b] ∧ ((SqL K H1 a xs ∧ SqL K H1 b ys ∧ LcW (Itz K a b) g tt te vs σ H1 Q) ∨ (SqT K H1 a xs ∧ SqT K H1 b ys ∧ LcW (RZ.ItzT K a b) g tt te vs σ H1 Q))) : tLc (iZipT K tA) g tt te vs σ H Q := q
theorem rd_clZT (h : SqT K H a xs) (h' : SqT K H b ys) {n : Nat} (hn : n = min xs.length ys.length) (Pv : Addr → Nat → Hp → Prop) (h0 : ∀ D, H D = none → Pv D 0 (upd H D (.lst []))) (hG : ∀ D i H', H D = none → i ≤ n → Pv D i H' → SqT K H' a xs ∧ SqT K H' b ys)
    (hs : ∀ D i x y T H', H D = none → xs[i]? = some x → ys[i]? = some y → Pv D i H' → H' T = none → LcT g tt te vs σ D (Pv D (i + 1)) (.ref T) (upd H' T (.tup [x, y]))) (hd : ∀ D H', H D = none → Pv D n H' → Q (.ref D) H') :
    ∃ c d us ws, [V.ref a, V.ref b] = [.ref c, .ref d] ∧ ((SqL K H c us ∧ SqL K H d ws ∧ LcW (Itz K c d) g tt te vs σ H Q) ∨ (SqT K H c us ∧ SqT K H d ws ∧ LcW (RZ.ItzT K c d) g tt te vs σ H Q)) := by
  refine ⟨a, b, xs, ys, rfl, .inr ⟨h, h', lc_by (walk_ItzT hn) Pv h0 hG ?_ hd⟩⟩
  rintro D i x H1 H2 hD hi hP ⟨T, u, y, rfl, hT, rfl, hu, hy⟩
  exact hs D i u y T H1 hD hu hy hP hT
section
variable {α β : Type} {as : List α} {bs : List β} {enc out : α → PyData} {encB : β → PyData}
/-- [.. for i, x in enumerate(a tuple of data)] -/
theorem rd_imET {p : α × Nat → Bool} {out : α × Nat → PyData} (h : H a = some (.tup xs)) (im : ImAll H xs (as.map enc)) (hl : as.length ≤ 1000000) (t : ImT (fun q : α × Nat => .tuple [.int (q.2 : Int), enc q.1]) out p as.zipIdx g tt te vs σ H)
    (hd : ∀ D H' ys, H D = none → Same H H' → H' D = some (.lst ys) → ImAll H' ys ((as.zipIdx.filter p).map out) → Q (.ref D) H') : ∃ c ys, [V.ref a] = [.ref c] ∧ SqT K H c ys ∧ LcW (ItE fun H xs => SqT K H c xs) g tt te vs σ H Q := by
  refine rd_clET (SqT.of h) (fun D i H' => ImP (fun q : α × Nat => .tuple [.int (q.2 : Int), enc q.1]) out p as.zipIdx H D i H') (fun D hD => ImP.zero hD) (fun D i H' _ _ h' => SqT.of (h'.1 _ _ h)) (fun D i x T H' hD hx hP hT => ?_) (fun D H' hD hP => ?_)
  · obtain ⟨d, hd, ix⟩ := im.getV hx
    rw [List.getElem?_map] at hd
    obtain ⟨y, hy, rfl⟩ := Option.map_eq_some_iff.mp hd
    have hne : D ≠ T := fun e => by
      obtain ⟨_, ws, hws, _⟩ := hP
      rw [e, hT] at hws
      cases hws
    have k := (Same.refl H').new (o := .tup [.int (i : Int), x]) hT
    obtain ⟨k0, ws, hws, iw⟩ := hP
    have hP' : ImP (fun q : α × Nat => .tuple [.int (q.2 : Int), enc q.1]) out p as.zipIdx H D i (upd H' T (.tup [.int (i : Int), x])) := ⟨k0.trans k, ws, k _ _ hws, iw.up (Tp.of k)⟩
    refine ImP.step (y := (y, i)) (by rw [List.length_zipIdx]; exact hl) t hD (by rw [List.getElem?_zipIdx, hy]; simp) ?_ hP'
    exact .tup upd_same (.cons (.int _) (.cons (ix.up (Tp.of (k0.trans k))) .nil))
  · obtain ⟨k, ys, hys, im'⟩ := hP
    have l : xs.length = as.zipIdx.length := by rw [im.length, List.length_map, List.length_zipIdx]
    rw [l, List.take_length] at im'
    exact hd D H' ys hD k hys im'
/-- [.. for x, y in zip(two tuples of data)] -/
theorem rd_imZT {p : α × β → Bool} {out : α × β → PyData} (h : H a = some (.tup xs)) (im : ImAll H xs (as.map enc)) (h2 : H b = some (.tup ys)) (im2 : ImAll H ys (bs.map encB)) (hl : as.length ≤ 1000000)
    (t : ImT (fun q : α × β => .tuple [enc q.1, encB q.2]) out p (as.zip bs) g tt te vs σ H)
    (hd : ∀ D H' ys, H D = none → Same H H' → H' D = some (.lst ys) → ImAll H' ys (((as.zip bs).filter p).map out) → Q (.ref D) H') :
    ∃ c d us ws, [V.ref a, V.ref b] = [.ref c, .ref d] ∧ ((SqL K H c us ∧ SqL K H d ws ∧ LcW (Itz K c d) g tt te vs σ H Q) ∨ (SqT K H c us ∧ SqT K H d ws ∧ LcW (RZ.ItzT K c d) g tt te vs σ H Q)) := by
  have lz : (as.zip bs).length = min xs.length ys.length := by rw [List.length_zip, im.length, im2.length, List.length_map, List.length_map]
  refine rd_clZT (SqT.of h) (SqT.of h2) lz (fun D i H' => ImP (fun q : α × β => .tuple [enc q.1, encB q.2]) out p (as.zip bs) H D i H') (fun D hD => ImP.zero hD) (fun D i H' _ _ h' => ⟨SqT.of (h'.1 _ _ h), SqT.of (h'.1 _ _ h2)⟩) (fun D i x y T H' hD hx hy hP hT => ?_) (fun D H' hD hP => ?_)
  · obtain ⟨d, hd, ix⟩ := im.getV hx
    rw [List.getElem?_map] at hd
    obtain ⟨u, hu, rfl⟩ := Option.map_eq_some_iff.mp hd
    obtain ⟨d, hd, iy⟩ := im2.getV hy
    rw [List.getElem?_map] at hd
    obtain ⟨u', hu', rfl⟩ := Option.map_eq_some_iff.mp hd
    have k := (Same.refl H').new (o := .tup [x, y]) hT
    obtain ⟨k0, ws, hws, iw⟩ := hP
    have hP' : ImP (fun q : α × β => .tuple [enc q.1, encB q.2]) out p (as.zip bs) H D i (upd H' T (.tup [x, y])) := ⟨k0.trans k, ws, k _ _ hws, iw.up (Tp.of k)⟩
    refine ImP.step (y := (u, u')) (by rw [List.length_zip]; omega) t hD ?_ ?_ hP'
    · rw [List.getElem?_zip_eq_some]
      exact ⟨hu, hu'⟩
    · exact .tup upd_same (.cons (ix.up (Tp.of (k0.trans k))) (.cons (iy.up (Tp.of (k0.trans k))) .nil))
  · obtain ⟨k, ys, hys, im'⟩ := hP
    rw [List.take_length] at im'
    exact hd D H' ys hD k hys im'
end
end
end Mine

/-! ## Dict comprehensions whose keys are tuples of ints and texts -/
namespace Mine
open PySem PySem.Spec PyProof.Rows L2
set_option linter.all false
/-- a comprehension stores at such a key -/
theorem dT_set {X : Cx} {pn : List (Addr × Obj)} {τ : St} {G : Hp} {s : Shared} {F : Value → Shared → Prop} {D b : Addr} {es : List (List Key × V)} {k : List Key} {y : V} {r : Value} {Q : Unit → Shared → Prop} (hu : X.A.units + 1 < cLine) (I : Inv X pn τ G s)
    (hD : G D = some (.dT es)) (eb : G b = some (.tup (k.map kV))) (hz : es.length < sizeLine) (rv : RelV y r) (q : ∀ s', Inv X pn τ (upd G D (.dT (putK es k y))) s' → Q () s') : wpAny (model X.prog X.w) X.A (dictSet D (.ref b) r) Q F s := by
  obtain ⟨z, nd, xs, rel, dd⟩ := dt_of I.hok hD
  have z1 : xs.length ≤ sizeLine := by
    have := Paired.length rel
    omega
  have z2 : (putK es k y).length ≤ sizeLine := by
    have := length_putK es k y
    omega
  refine wpAny_dictSet_heap (hsz := z1) (show X.A.units < cLine by omega) (key_of I.hok eb) dd fun h' dd' hs => q _ ?_
  obtain ⟨o, e1, e2, ho, g2, g3, g4, _, g5⟩ := dd'
  refine d_write I (by rw [hD]; trivial) hs ⟨o, ho⟩ ⟨z2, nd, _, (rel.put k eb rv).keeps fun c ys ec => ?_, o, e1, e2, ho, g2, g3, g4, g5⟩
  rw [upd_ne (ne_of ec hD fun z => nomatch z)]
  exact ec
/-- {k: v for target in iter if ..}, the keys tuples; D the new dict -/
def tDcT (wi : TI) (g : TG) (tt : TT) (tk tv : TE) (vs : List Nat) : TE := fun σ H Q => wi σ H fun J H1 => ∀ D, H1 D = none → ∃ W : Nat → Nat → Hp → Prop, (∃ m, W 0 m (upd H1 D (.dT []))) ∧ ∀ i m H, W i m H →
  (J.stop i H ∧ Q (.ref D) H) ∨ (J.go i H ∧ ∃ Nx : Hp → Prop, (∀ H', Nx H' → ∃ m', m' < m ∧ W (i + 1) m' H') ∧ ∀ x H', J.yld i H x H' → g x (wipe σ vs) H' fun σ2 H2 => wipe σ2 vs = wipe σ vs ∧ tt σ2 H2 fun b H3 =>
    if b = true then tk σ2 H3 fun y H4 => tv σ2 H4 fun z H5 => ∃ es k c, y = .ref c ∧ H5 c = some (.tup (k.map kV)) ∧ H5 D = some (.dT es) ∧ es.length < sizeLine ∧ Nx (upd H5 D (.dT (putK es k z))) else Nx H3)
section
variable {X : Cx} {kx vx tg iter : Expr} {ifs : List Expr} {scope : Scope} {own : List (Str × Nat)} {pos : Pos} {wi : TI} {g : TG} {tt : TT} {tk tv : TE}
theorem pe_dcT (hc : X.calm = true) (hu : X.A.units + 1 < cLine) (hN : X.N.Nodup) (hi : PI X tg iter wi) (ok : BlkOk X.N X.env.scope scope own)
    (hg : ∀ (z : Shared) (G : Hp) (C : Addr) (cl : List (Str × Addr)) (fp : List Addr), PG (X.blk z G scope (compEnvC scope cl C X.env) fp) tg g) (ht : ∀ (z : Shared) (G : Hp) (C : Addr) (cl : List (Str × Addr)) (fp : List Addr), PTs (X.blk z G scope (compEnvC scope cl C X.env) fp) ifs tt)
    (hk : ∀ (z : Shared) (G : Hp) (C : Addr) (cl : List (Str × Addr)) (fp : List Addr), PE (X.blk z G scope (compEnvC scope cl C X.env) fp) kx tk)
    (hv : ∀ (z : Shared) (G : Hp) (C : Addr) (cl : List (Str × Addr)) (fp : List Addr), PE (X.blk z G scope (compEnvC scope cl C X.env) fp) vx tv) (hs : ∀ x, foldedSetIterable iter X.env x = pure x := by intro _; rfl) :
    PE X (.DictComp kx vx [⟨tg, iter, ifs, 0⟩] scope pos) (tDcT wi g tt tk tv (own.map (·.2))) := by
  refine ⟨fun pn s τ G Q I q0 => ?_⟩
  rw [arm_eval_DictComp]
  have freed : ∀ y ∈ scope.names, y.2 = .free → ∃ c, X.env.cells.lookup y.1 = some c := fun y hy e => (ok.free y hy e).elim (fun k => I.ok.has _ (.inl k)) fun k => I.ok.has _ (.inr k)
  refine wpAny_comprehension_free rfl hs (closure_ok freed) ok.kind (fun y hy e => (ok.uniq y hy).trans (by rw [e])) (thn (hi.run pn s τ G _ I q0) fun _ _ hx => thn hx fun _ t ht2 => ?_)
  obtain ⟨it, fp, tn, J, H2, rfl, I2, T, at2, own2, q⟩ := ht2
  refine wpAny_newObj_type (newEnv_comp ?_)
  generalize eD : t.heap.objs.size = D
  have freshD : H2 D = none := I2.hok.fresh (Nat.le_of_eq eD)
  obtain ⟨W, ⟨m0, w0⟩, turn⟩ := q D freshD
  generalize et : ({ t with heap := t.heap.push { cls := .type "dict", data := .dict #[] } } : Shared) = t3
  have ht3 : t3.heap = t.heap.push { cls := .type "dict", data := .dict #[] } := by rw [← et]
  have I3 : Inv X pn τ (upd H2 D (.dT [])) t3 := by
    rw [← et]
    refine I2.laid (t' := t.toks) (fun b o e => Heap.get?_push_of_some _ e) (Nat.le_of_eq eD) ?_
    rw [← eD]
    exact dt_empty t.heap I2.big
  have low : ∀ b ∈ fp, b < t.heap.objs.size := fun b hb => (T.obj _ _ at2 b hb).elim fun _ e => Heap.lt_size e.1
  have own3 : ∀ b ∈ fp, FpOk X pn (upd H2 D (.dT [])) b ∧ b < t3.heap.objs.size := fun b hb => by
    have l := low b hb
    refine ⟨⟨?_, (own2 b hb).2⟩, ?_⟩
    · rw [upd_ne (by rw [← eD]; exact Nat.ne_of_lt l)]
      exact (own2 b hb).1
    · rw [ht3, Heap.size_push]
      exact Nat.lt_succ_of_lt l
  have at3 : tn 0 t3.heap := T.keep _ _ _ at2 fun b _ o e => by
    rw [ht3]
    exact Heap.get?_push_of_some _ e
  have I4 := block_start I3 ok hN own3
  have pg := hg t3 (upd H2 D (.dT [])) t3.heap.objs.size (cellsFrom (t3.heap.objs.size + 1) scope.names (cloFrom X.env.cells scope.names [])) fp
  have pt := ht t3 (upd H2 D (.dT [])) t3.heap.objs.size (cellsFrom (t3.heap.objs.size + 1) scope.names (cloFrom X.env.cells scope.names [])) fp
  have pk := hk t3 (upd H2 D (.dT [])) t3.heap.objs.size (cellsFrom (t3.heap.objs.size + 1) scope.names (cloFrom X.env.cells scope.names [])) fp
  have pv := hv t3 (upd H2 D (.dT [])) t3.heap.objs.size (cellsFrom (t3.heap.objs.size + 1) scope.names (cloFrom X.env.cells scope.names [])) fp
  have off : ∀ b ∈ fp, (upd H2 D (.dT [])) b = none := fun b hb => (own3 b hb).1.1
  have back : ∀ (t' : Shared) (G' : Hp), W 0 m0 (upd H2 D (.dT [])) → Inv X pn τ G' t' → Q (.ref D) G' → ∀ mm, t'.heap.Ns t3.heap.objs.size mm → FpOk X pn G' t3.heap.objs.size → compPost (model X.prog X.w) X.A X.xe none (fun v s' => ∃ x H', Inv X pn τ H' s' ∧ RelV x v ∧ Q x H') (.ref D) t3.heap.objs.size (.ok .next) t' := fun t' G' _ I' q' mm hn f => ⟨mm, hn, fun h'' sb => by
    obtain ⟨a0, a1, a2, a3, a4, a5⟩ := f
    exact ⟨.ref D, G', I'.turned (t' := t'.toks) (fun b o hb e => (sb.2 b hb).trans e) a0 a1 a3 a4 a5, rfl, q'⟩⟩
  show codeAny _ _ (.compStart (.DictComp kx vx [⟨tg, iter, ifs, 0⟩] scope pos) 0 (.ref it) (.ref D) (compEnvC scope (cellsFrom (t3.heap.objs.size + 1) scope.names (cloFrom X.env.cells scope.names [])) t3.heap.objs.size X.env)) (compPost (model X.prog X.w) X.A X.xe none _ (.ref D) t3.heap.objs.size) { t3 with heap := pushCells (t3.heap.push { cls := .type "dict", data := .dict #[] }) scope.names }
  generalize ece : compEnvC scope (cellsFrom (t3.heap.objs.size + 1) scope.names (cloFrom X.env.cells scope.names [])) t3.heap.objs.size X.env = ce at I4 pg pt pk pv ⊢
  have locC : ce.locals = t3.heap.objs.size := by rw [← ece]; rfl
  generalize eH3 : upd H2 D (.dT []) = G3 at I3 I4 pg pt pk pv w0 off own3 back
  generalize et4 : ({ t3 with heap := pushCells (t3.heap.push { cls := .type "dict", data := .dict #[] }) scope.names } : Shared) = t4 at I4 ⊢
  have at4 : tn 0 t4.heap := T.keep _ _ _ at3 fun b _ o e => by
    rw [← et4]
    exact pushCells_keeps _ _ _ _ (Heap.get?_push_of_some _ e)
  have still : ∀ {τ' : St} {G' : Hp} {t' : Shared}, Inv (X.blk t3 G3 scope ce fp) [] τ' G' t' → (∀ b ∈ fp, G' b = none) → ∀ b ∈ fp, FpOk (X.blk t3 G3 scope ce fp) [] G' b := fun {_ _ _} J' hn b hb =>
    ⟨hn b hb, (J'.ok.exf b hb).1, J'.ok.exfs b hb, .inl hb, fun x c e => (J'.ok.exf b hb).2 x c e, fun p hp => nomatch (show p ∈ ([] : List (Addr × Obj)) ++ [] from hp)⟩
  refine codeAny_compStart_dict ?lp (T.self X.A 0 _ _ _ at4 ?lp)
  refine compLoop_anyD (fun n t' => ∃ i G', Inv (X.blk t3 G3 scope ce fp) [] (wipe τ (own.map (·.2))) G' t' ∧ tn i t'.heap ∧ (∀ b ∈ fp, G' b = none) ∧ W i n G') ?_ m0 ⟨0, G3, I4, at4, off, w0⟩
  rintro n t5 ⟨i, G5, I5, at5, n5, w5⟩
  rcases turn i n G5 w5 with ⟨stop, qq⟩ | ⟨go, Nx, hNx, step⟩
  · refine thnF (T.done (X.blk t3 G3 scope ce fp) rfl rfl rfl hc i [] t5 _ G5 (fun _ _ => False) I5 (still I5 n5) at5 stop) fun r t6 ⟨hr, I6⟩ => ?_
    cases hr
    have I7 : Inv X pn τ G5 t6 := I3.call' (ch := fp) I6.os I6.base I6.hok I6.bare fun b hb => ⟨(own3 b hb).1.2.2.2.1, (own3 b hb).1.2.1, (own3 b hb).1.2.2.2.2.1, (own3 b hb).1.2.2.2.2.2⟩
    have nC : G5 t3.heap.objs.size = none := by
      have z : G5 ce.locals = none := I6.free
      rwa [locC] at z
    obtain ⟨mm, hn, _⟩ := I6.loc
    have hn : t6.heap.Ns ce.locals mm := hn
    rw [locC] at hn
    exact back t6 G5 w0 I7 qq mm hn (I3.fpOk (Nat.le_refl _) nC)
  · refine thnF (T.item (X.blk t3 G3 scope ce fp) rfl rfl rfl hc i [] t5 _ G5 (fun _ _ => False) I5 (still I5 n5) at5 go) fun r t6 ⟨u, hr, h6⟩ => ?_
    cases hr
    refine thnF h6 fun _ t7 ⟨x, G7, I7, r7, y7, at7, n7⟩ => ?_
    have I7' := I7.pinned (still I7 n7) (T.obj _ _ at7)
    refine thnF (pg.run _ t7 _ G7 x u _ I7' r7 (step x G7 y7)) fun _ t8 ⟨τ8, G8, I8, hw8, q8⟩ => ?_
    refine thnF (pt.run _ t8 τ8 G8 _ I8 q8) fun b t9 ⟨G9, I9, q9⟩ => ?_
    have fin : ∀ {t' : Shared} {G' : Hp}, Inv (X.blk t3 G3 scope ce fp) ([] ++ pinsAt fp t7.heap) τ8 G' t' → Nx G' → ∃ m, m < n ∧ ∃ i G', Inv (X.blk t3 G3 scope ce fp) [] (wipe τ (own.map (·.2))) G' t' ∧ tn i t'.heap ∧ (∀ b ∈ fp, G' b = none) ∧ W i m G' := fun {t' G'} I' nx => by
      obtain ⟨m', hm, w'⟩ := hNx G' nx
      have pin' : ∀ b ∈ fp, ∀ o, t7.heap.get? b = some o → t'.heap.get? b = some o ∧ G' b = none := fun b hb o e =>
        have z := I'.pin (b, o) (List.mem_append_right _ (List.mem_append_right _ (mem_pinsAt hb e)))
        ⟨z.1, z.2.1⟩
      have same : (wipe τ (own.map (·.2))).length = τ8.length := by rw [← hw8, wipe_length]
      refine ⟨m', hm, i + 1, G', (I'.unpinned (pins := [])).weak same (fun j v e => ?_), T.keep _ _ _ at7 fun b hb o e => (pin' b hb o e).1, fun b hb => ?_, w'⟩
      · exact (wipe_some (hw8.symm ▸ e)).1
      · exact (T.obj _ _ at7 b hb).elim fun o e => (pin' b hb o e.1).2
    cases b with
    | false => exact fin I9 q9
    | true =>
      refine thnF (pk.run _ t9 τ8 G9 _ I9 q9) fun z t10 ⟨yk, G10, I10, r10, q10⟩ => ?_
      refine thnF (pv.run _ t10 τ8 G10 _ I10 q10) fun z2 t11 ⟨yv, G11, I11, r11, es, k, c, ek, hc11, hD11, hz11, nx⟩ => ?_
      subst ek
      cases (show z = Value.ref c from r10)
      exact dT_set (X := X.blk t3 G3 scope ce fp) hu I11 hD11 hc11 hz11 r11 fun t12 I12 => fin I12 nx
end
section
variable {K : PySem.W.Frag} {a : Addr} {xs : List V} {H : Hp} {σ : St} {g : TG} {ta tk tv : TE} {tt : TT} {vs : List Nat} {Q : VK}
def DctT (g : TG) (tt : TT) (tk tv : TE) (vs : List Nat) (σ : St) (D : Addr) (N : Hp → Prop) (x : V) (H : Hp) : Prop :=
  g x (wipe σ vs) H fun σ2 H2 => wipe σ2 vs = wipe σ vs ∧ tt σ2 H2 fun b H3 => if b = true then tk σ2 H3 fun y H4 => tv σ2 H4 fun z H5 => ∃ es k c, y = .ref c ∧ H5 c = some (.tup (k.map kV)) ∧ H5 D = some (.dT es) ∧ es.length < sizeLine ∧ N (upd H5 D (.dT (putK es k z))) else N H3
theorem rd_dctT1 {D : Addr} {N : Hp → Prop} {x : V} (q : g x (wipe σ vs) H fun σ2 H2 => wipe σ2 vs = wipe σ vs ∧ tt σ2 H2 fun b H3 => if b = true then tk σ2 H3 fun y H4 => tv σ2 H4 fun z H5 => ∃ es k c, y = .ref c ∧ H5 c = some (.tup (k.map kV)) ∧ H5 D = some (.dT es) ∧ es.length < sizeLine ∧ N (upd H5 D (.dT (putK es k z))) else N H3) :
    DctT g tt tk tv vs σ D N x H := q
def DctW (J : It) (g : TG) (tt : TT) (tk tv : TE) (vs : List Nat) (σ : St) (H1 : Hp) (Q : VK) : Prop := ∀ D, H1 D = none → ∃ W : Nat → Nat → Hp → Prop, (∃ m, W 0 m (upd H1 D (.dT []))) ∧ ∀ i m H, W i m H →
  (J.stop i H ∧ Q (.ref D) H) ∨ (J.go i H ∧ ∃ Nx : Hp → Prop, (∀ H', Nx H' → ∃ m', m' < m ∧ W (i + 1) m' H') ∧ ∀ x H', J.yld i H x H' → DctT g tt tk tv vs σ D Nx x H')
theorem rd_dctT (q : ta σ H fun x H1 => ∃ a, x = .ref a ∧ (∃ xs, SqT K H1 a xs) ∧ DctW (Itt K a) g tt tk tv vs σ H1 Q) : tDcT (iAny K ta) g tt tk tv vs σ H Q := .inr (.inl q)
theorem rd_ddtT (h : SqT K H a xs) (Pv : Addr → Nat → Hp → Prop) (h0 : ∀ D, H D = none → Pv D 0 (upd H D (.dT []))) (hG : ∀ D i H', H D = none → i ≤ xs.length → Pv D i H' → SqT K H' a xs)
    (hs : ∀ D i x H', H D = none → xs[i]? = some x → Pv D i H' → DctT g tt tk tv vs σ D (Pv D (i + 1)) x H') (hd : ∀ D H', H D = none → Pv D xs.length H' → Q (.ref D) H') :
    ∃ b, V.ref a = .ref b ∧ (∃ xs, SqT K H b xs) ∧ DctW (Itt K b) g tt tk tv vs σ H Q := by
  refine ⟨a, rfl, ⟨xs, h⟩, fun D hD => ⟨fun i m H' => m = xs.length - i ∧ i ≤ xs.length ∧ Pv D i H', ⟨xs.length, by simp, Nat.zero_le _, h0 D hD⟩, ?_⟩⟩
  rintro i m H' ⟨rfl, hi, p⟩
  have q := hG D i H' hD hi p
  have wk := walk_tup (K := K) (a := a) (xs := xs)
  by_cases hlt : i < xs.length
  · refine .inr ⟨wk.goes i H' hlt q, Pv D (i + 1), fun H2 p' => ⟨xs.length - (i + 1), by omega, rfl, hlt, p'⟩, fun x H2 y => ?_⟩
    obtain ⟨e, hx⟩ := wk.yields i H' x H2 hlt q y
    subst e
    exact hs D i x _ hD hx p
  · have e : i = xs.length := by omega
    subst e
    exact .inl ⟨wk.stops H' q, hd D H' hD p⟩
theorem rd_lenDT {p : Addr} {kvs : List (List Key × V)} (h : H p = some (.dT kvs)) (q : Q (.int ((kvs.length : Nat) : Int)) H) : rLenT [.ref p] H Q := ⟨p, kvs, rfl, h, q⟩
end
end Mine

local macro_rules | `(tactic| walk_at "len") => `(tactic| first | assumption | (refine Mine.szOk ?_; first | decide +kernel | ((try simp only [Mine.len_app]); omega)))
local macro_rules | `(tactic| walk_at "sd") => `(tactic| first | assumption | rfl | exact L2.SqL.of (by assumption) | exact L2.SqT.of (by assumption) | exact L2.SqL.of L2.upd_same | exact L2.SqT.of L2.upd_same | exact L2.upd_same | decide | omega)
local macro_rules | `(tactic| walk_at "rd1") => `(tactic| with_reducible first
  | refine Mine.rd_var (by with_unfolding_all rfl) ?_ | refine Mine.rd_c ?_ | refine Mine.rd_op ?_ | refine Mine.rd_seq ?_ | refine Mine.rd_asg ?_ | refine Mine.rd_gname (by (simp only [L2.wipe, List.map, List.set]); first | done | exact rfl) ?_ | refine Mine.rd_wipe (by with_unfolding_all rfl) ?_ | refine Mine.rd_lcT1 ?_ | refine Mine.rd_dcT1 ?_ | refine Mine.rd_dctT1 ?_ | refine Mine.rd_lcET ?_ | refine Mine.rd_forET ?_ | refine Mine.rd_lcZT ?_ | refine Mine.rd_forES ?_ | refine Mine.rd_lcES ?_ | refine Mine.rd_lenSet ?_
  | refine Mine.rd_test ?_ | refine Mine.rd_tB ?_ | refine Mine.rd_bl ?_ | refine Mine.rd_ifS ?_ | refine Mine.rd_ifE ?_ | refine Mine.rd_and ?_ | refine Mine.rd_or ?_ | refine Mine.rd_not ?_
  | refine Mine.rd_andV ?_ | refine Mine.rd_orV ?_ | refine Mine.rd_notV ?_ | refine Mine.rd_cons ?_ | refine Mine.rd_nil ?_ | refine Mine.rd_call ?_ | refine Mine.rd_callK ?_ | refine Mine.rd_callS ?_ | refine Mine.rd_callKS ?_ | refine Mine.rd_raise ?_ | refine Mine.rd_raiseS ?_ | refine Mine.rd_raised ?_ | refine Mine.rd_byS ?_ | refine Mine.rd_tryO ?_ | refine Mine.rd_tryM ?_ | refine Mine.rd_tryA ?_ | refine Mine.rd_sp1x ?_ | refine Mine.rd_sp2x ?_ | refine Mine.rd_sp3x ?_ | refine Mine.rd_sp4x ?_
  | refine Mine.rd_sp1 ?_ | refine Mine.rd_sp2 ?_ | refine Mine.rd_sp3 ?_ | refine Mine.rd_sp4 ?_ | refine Mine.rd_cb ?_ | refine Mine.rd_bm ?_ | refine Mine.rd_bm0 ?_ | refine Mine.rd_m1 ?_ | refine Mine.rd_m0 ?_
  | refine Mine.rd_sl ?_ | refine Mine.rd_noPart ?_ | refine Mine.rd_part ?_ | refine Mine.rd_int ?_ | refine Mine.rd_chain ?_ | refine Mine.rd_un ?_ | refine Mine.rd_yes ?_ | refine Mine.rd_revL ?_ | refine Mine.rd_star ?_ | refine Mine.rd_isB ?_ | refine Mine.rd_notB ?_ | refine Mine.rd_dput ?_ | refine Mine.rd_dnew ?_ | refine Mine.rd_forE ?_ | refine Mine.rd_forZ ?_ | refine Mine.rd_lcE ?_ | refine Mine.rd_lcZ ?_ | refine Mine.rd_forR ?_ | refine Mine.rd_forR2 ?_ | refine Mine.rd_lcR ?_ | refine Mine.rd_lcR2 ?_
  | refine Mine.rd_new (by with_unfolding_all rfl) ?_ | refine Mine.rd_lst ?_ | refine Mine.rd_tup ?_ | refine Mine.rd_next ?_ | refine Mine.rd_brk ?_ | refine Mine.rd_cont ?_ | refine Mine.rd_drop ?_ | refine Mine.rd_ret ?_ | refine Mine.rd_retN ?_
  | refine Mine.rd_par ?_ | refine Mine.rd_par2 (by (simp only [List.set]); first | done | exact rfl) ?_ | refine Mine.rd_gsub ?_ | refine Mine.rd_gcons ?_ | refine Mine.rd_gnil ?_ | refine Mine.rd_aug (by with_unfolding_all rfl) ?_ | refine Mine.rd_ipI ?_
  | refine Mine.rd_addI ?_ | refine Mine.rd_subI ?_ | refine Mine.rd_ltI ?_ | refine Mine.rd_leI ?_ | refine Mine.rd_gtI ?_ | refine Mine.rd_geI ?_ | refine Mine.rd_eqI ?_ | refine Mine.rd_eqS ?_ | refine Mine.rd_neI ?_ | refine Mine.rd_neS ?_
  | refine Mine.rd_ltS ?_ | refine Mine.rd_leS ?_ | refine Mine.rd_gtS ?_ | refine Mine.rd_geS ?_ | refine Mine.rd_eqB ?_ | refine Mine.rd_neB ?_
  | refine Mine.rd_ixLU (by with_unfolding_all rfl) ?_ | refine Mine.rd_ixTU (by with_unfolding_all rfl) ?_ | refine Mine.rd_ixL (L2.SqL.of (by assumption)) (by with_unfolding_all rfl) ?_ | refine Mine.rd_ixT (L2.SqT.of (by assumption)) (by with_unfolding_all rfl) ?_ | refine Mine.rd_setLU (by with_unfolding_all rfl) ?_ | refine Mine.rd_setL (by assumption) (by with_unfolding_all rfl) ?_
  | refine Mine.rd_yT ?_ | refine Mine.rd_nF ?_ | refine Mine.rd_nT ?_ | refine Mine.rd_yF ?_ | refine Mine.rd_isiS ?_ | refine Mine.rd_isiSN ?_ | refine Mine.rd_isiSI ?_ | refine Mine.rd_isiSB ?_ | refine Mine.rd_isiI ?_ | refine Mine.rd_isiIB ?_ | refine Mine.rd_isiIN ?_ | refine Mine.rd_isiIS ?_ | refine Mine.rd_isiB ?_ | refine Mine.rd_isiBI ?_
  | refine Mine.rd_mulS (by first | decide +kernel | omega) (by first | decide | omega) (by first | decide | omega) ?_ | refine Mine.rd_slS (by walk_at "len") ?_ | refine Mine.rd_addS (by walk_at "len") ?_ | refine Mine.rd_lenS (by walk_at "len") ?_
  | refine Mine.rd_inS ?_ | refine Mine.rd_notInS ?_ | refine Mine.rd_is ?_ | refine Mine.rd_isNot ?_ | refine Mine.rd_intI ?_ | refine Mine.rd_intB ?_ | refine Mine.rd_max ?_ | refine Mine.rd_min ?_ | refine Mine.rd_tyS ?_ | refine Mine.rd_isS ?_)
local macro_rules | `(tactic| walk_at "rd") => `(tactic| repeat walk_at "rd1")

namespace Mine
open PySem PySem.Spec PyProof.Rows L2
open TL (tl)
def top (i : Nat) : Stmt := PySem.Challenge.pw_wireshell_k55_plans_for_changes.main.body.getD i (.Pass ⟨0, 0, 0, 0⟩)
abbrev s_is_from : Stmt := top 15
abbrev s_is_tuple : Stmt := top 16
abbrev s_is_item : Stmt := top 17
abbrev s_is_a_disk : Stmt := top 18
abbrev s_is_write : Stmt := top 19
abbrev s_is_stage : Stmt := top 20
abbrev s_is_a_plan : Stmt := top 21
abbrev s_are_changes : Stmt := top 22
abbrev s_need_disk : Stmt := top 23
abbrev s_need_group : Stmt := top 24
abbrev s_need_changes : Stmt := top 25
abbrev s_puts_of : Stmt := top 26
abbrev s_is_whole : Stmt := top 27
abbrev s_group_put : Stmt := top 28
abbrev s_with_changes : Stmt := top 29
abbrev s_put_back : Stmt := top 30
abbrev s_is_plan : Stmt := top 32
abbrev s_recovered : Stmt := top 33
abbrev s_need_empty : Stmt := top 34
abbrev s_plan_for : Stmt := top 35
abbrev s_law_pot : Stmt := top 37
abbrev s_law_draw : Stmt := top 38
abbrev s_law_item : Stmt := top 39
abbrev s_law_done : Stmt := top 41
abbrev s_law_changes : Stmt := top 46
abbrev s_law_plan_for : Stmt := top 47
abbrev s_law_empty_disk : Stmt := top 48
abbrev s_law_with : Stmt := top 49
abbrev s_law_caught : Stmt := top 51
abbrev s_law : Stmt := top 52
theorem sc_is_from : FnScope ["value", "low", "high"] ["value", "low", "high"] (defScope s_is_from) := ⟨rfl, rfl, rfl, by decide +kernel, rfl, by decide +kernel, by decide +kernel⟩
theorem sc_is_tuple : FnScope ["value", "low", "high"] ["value", "low", "high"] (defScope s_is_tuple) := ⟨rfl, rfl, rfl, by decide +kernel, rfl, by decide +kernel, by decide +kernel⟩
theorem sc_is_item : FnScope ["many", "value"] ["many", "value"] (defScope s_is_item) := ⟨rfl, rfl, rfl, by decide +kernel, rfl, by decide +kernel, by decide +kernel⟩
theorem sc_is_a_disk : FnScope ["value", "one", "item"] ["value"] (defScope s_is_a_disk) := ⟨rfl, rfl, rfl, by decide +kernel, rfl, by decide +kernel, by decide +kernel⟩
theorem sc_is_write : FnScope ["disk", "value"] ["disk", "value"] (defScope s_is_write) := ⟨rfl, rfl, rfl, by decide +kernel, rfl, by decide +kernel, by decide +kernel⟩
theorem sc_is_stage : FnScope ["disk", "value", "write"] ["disk", "value"] (defScope s_is_stage) := ⟨rfl, rfl, rfl, by decide +kernel, rfl, by decide +kernel, by decide +kernel⟩
theorem sc_is_a_plan : FnScope ["disk", "value", "stage"] ["disk", "value"] (defScope s_is_a_plan) := ⟨rfl, rfl, rfl, by decide +kernel, rfl, by decide +kernel, by decide +kernel⟩
theorem sc_are_changes : FnScope ["disk", "value", "place", "number", "one", "other"] ["disk", "value"] (defScope s_are_changes) := ⟨rfl, rfl, rfl, by decide +kernel, rfl, by decide +kernel, by decide +kernel⟩
theorem sc_need_disk : FnScope ["disk"] ["disk"] (defScope s_need_disk) := ⟨rfl, rfl, rfl, by decide +kernel, rfl, by decide +kernel, by decide +kernel⟩
theorem sc_need_group : FnScope ["group"] ["group"] (defScope s_need_group) := ⟨rfl, rfl, rfl, by decide +kernel, rfl, by decide +kernel, by decide +kernel⟩
theorem sc_need_changes : FnScope ["disk", "changes"] ["disk", "changes"] (defScope s_need_changes) := ⟨rfl, rfl, rfl, by decide +kernel, rfl, by decide +kernel, by decide +kernel⟩
theorem sc_puts_of : FnScope ["slots", "group", "item"] ["slots", "group"] (defScope s_puts_of) := ⟨rfl, rfl, rfl, by decide +kernel, rfl, by decide +kernel, by decide +kernel⟩
theorem sc_is_whole : FnScope ["slots", "group", "many", "puts", "place", "value"] ["slots", "group", "many"] (defScope s_is_whole) := ⟨rfl, rfl, rfl, by decide +kernel, rfl, by decide +kernel, by decide +kernel⟩
theorem sc_group_put : FnScope ["slots", "ends", "groups", "item", "word", "group", "many"] ["slots"] (defScope s_group_put) := ⟨rfl, rfl, rfl, by decide +kernel, rfl, by decide +kernel, by decide +kernel⟩
theorem sc_with_changes : FnScope ["values", "changes", "found", "place", "value"] ["values", "changes"] (defScope s_with_changes) := ⟨rfl, rfl, rfl, by decide +kernel, rfl, by decide +kernel, by decide +kernel⟩
theorem sc_put_back : FnScope ["disk", "group", "puts"] ["disk"] (defScope s_put_back) := ⟨rfl, rfl, rfl, by decide +kernel, rfl, by decide +kernel, by decide +kernel⟩
theorem sc_is_plan : FnScope ["disk", "value"] ["disk", "value"] (defScope s_is_plan) := ⟨rfl, rfl, rfl, by decide +kernel, rfl, by decide +kernel, by decide +kernel⟩
theorem sc_recovered : FnScope ["disk"] ["disk"] (defScope s_recovered) := ⟨rfl, rfl, rfl, by decide +kernel, rfl, by decide +kernel, by decide +kernel⟩
theorem sc_need_empty : FnScope ["disk", "item"] ["disk"] (defScope s_need_empty) := ⟨rfl, rfl, rfl, by decide +kernel, rfl, by decide +kernel, by decide +kernel⟩
theorem sc_plan_for : FnScope ["disk", "group", "changes", "many", "puts", "values", "cleared", "stages", "at", "change", "stage"] ["disk", "group", "changes"] (defScope s_plan_for) := ⟨rfl, rfl, rfl, by decide +kernel, rfl, by decide +kernel, by decide +kernel⟩
theorem sc_law_pot : FnScope ["script", "k", "total", "number", "cell"] ["script", "k"] (defScope s_law_pot) := ⟨rfl, rfl, rfl, by decide +kernel, rfl, by decide +kernel, by decide +kernel⟩
theorem sc_law_draw : FnScope ["pot", "many", "found", "mixed"] ["pot", "many"] (defScope s_law_draw) := ⟨rfl, rfl, rfl, by decide +kernel, rfl, by decide +kernel, by decide +kernel⟩
theorem sc_law_item : FnScope ["pot", "places", "groups"] ["pot", "places", "groups"] (defScope s_law_item) := ⟨rfl, rfl, rfl, by decide +kernel, rfl, by decide +kernel, by decide +kernel⟩
theorem sc_law_done : FnScope ["disk", "writes", "values", "items", "kind", "place", "what"] ["disk", "writes"] (defScope s_law_done) := ⟨rfl, rfl, rfl, by decide +kernel, rfl, by decide +kernel, by decide +kernel⟩
theorem sc_law_changes : FnScope ["pot", "places", "place"] ["pot", "places"] (defScope s_law_changes) := ⟨rfl, rfl, rfl, by decide +kernel, rfl, by decide +kernel, by decide +kernel⟩
theorem sc_law_plan_for : FnScope ["disk", "group", "changes", "many", "puts", "ends", "values", "empty", "at", "change", "stage"] ["disk", "group", "changes"] (defScope s_law_plan_for) := ⟨rfl, rfl, rfl, by decide +kernel, rfl, by decide +kernel, by decide +kernel⟩
theorem sc_law_empty_disk : FnScope ["pot", "places", "values", "changes", "place"] ["pot"] (defScope s_law_empty_disk) := ⟨rfl, rfl, rfl, by decide +kernel, rfl, by decide +kernel, by decide +kernel⟩
theorem sc_law_with : FnScope ["values", "changes", "found", "place", "value"] ["values", "changes"] (defScope s_law_with) := ⟨rfl, rfl, rfl, by decide +kernel, rfl, by decide +kernel, by decide +kernel⟩
theorem sc_law_caught : FnScope ["disk", "group", "changes", "word"] ["disk", "group", "changes"] (defScope s_law_caught) := ⟨rfl, rfl, rfl, by decide +kernel, rfl, by decide +kernel, by decide +kernel⟩
theorem sc_law : FnScope ["script", "k", "pot", "turn", "disk", "changes", "group", "due", "told", "left", "stage", "less", "word", "at", "filled"] ["script"] (defScope s_law) := ⟨rfl, rfl, rfl, by decide +kernel, rfl, by decide +kernel, by decide +kernel⟩
/-- what the top has left -/
structure Txt (P : Program) (K : PySem.W.Frag) (mg : Str → Option Value) : Prop where
  c_MOST_VALUES : GK mg "MOST_VALUES" (.int 6)
  c_LEAST_SLOTS : GK mg "LEAST_SLOTS" (.int 2)
  c_MOST_SLOTS : GK mg "MOST_SLOTS" (.int 8)
  c_MOST_VALUE : GK mg "MOST_VALUE" (.int 999)
  c_MOST_GROUP : GK mg "MOST_GROUP" (.int 99)
  c_MOST_STAGES : GK mg "MOST_STAGES" (.int 8)
  c_MOST_WRITES : GK mg "MOST_WRITES" (.int 8)
  d_is_from : DefAt K mg "is_from" ["value", "low", "high"] s_is_from
  d_is_tuple : DefAt K mg "is_tuple" ["value", "low", "high"] s_is_tuple
  d_is_item : DefAt K mg "is_item" ["many", "value"] s_is_item
  d_is_a_disk : DefAt K mg "is_a_disk" ["value"] s_is_a_disk
  d_is_write : DefAt K mg "is_write" ["disk", "value"] s_is_write
  d_is_stage : DefAt K mg "is_stage" ["disk", "value"] s_is_stage
  d_is_a_plan : DefAt K mg "is_a_plan" ["disk", "value"] s_is_a_plan
  d_are_changes : DefAt K mg "are_changes" ["disk", "value"] s_are_changes
  d_need_disk : DefAt K mg "need_disk" ["disk"] s_need_disk
  d_need_group : DefAt K mg "need_group" ["group"] s_need_group
  d_need_changes : DefAt K mg "need_changes" ["disk", "changes"] s_need_changes
  d_puts_of : DefAt K mg "puts_of" ["slots", "group"] s_puts_of
  d_is_whole : DefAt K mg "is_whole" ["slots", "group", "many"] s_is_whole
  d_group_put : DefAt K mg "group_put" ["slots"] s_group_put
  d_with_changes : DefAt K mg "with_changes" ["values", "changes"] s_with_changes
  d_put_back : DefAt K mg "put_back" ["disk"] s_put_back
  d_is_plan : DefAt K mg "is_plan" ["disk", "value"] s_is_plan
  d_recovered : DefAt K mg "recovered" ["disk"] s_recovered
  d_need_empty : DefAt K mg "need_empty" ["disk"] s_need_empty
  d_plan_for : DefAt K mg "plan_for" ["disk", "group", "changes"] s_plan_for
  d_law_pot : DefAt K mg "_law_pot" ["script", "k"] s_law_pot
  d_law_draw : DefAt K mg "_law_draw" ["pot", "many"] s_law_draw
  d_law_item : DefAt K mg "_law_item" ["pot", "places", "groups"] s_law_item
  d_law_done : DefAt K mg "_law_done" ["disk", "writes"] s_law_done
  d_law_changes : DefAt K mg "_law_changes" ["pot", "places"] s_law_changes
  d_law_plan_for : DefAt K mg "_law_plan_for" ["disk", "group", "changes"] s_law_plan_for
  d_law_empty_disk : DefAt K mg "_law_empty_disk" ["pot"] s_law_empty_disk
  d_law_with : DefAt K mg "_law_with" ["values", "changes"] s_law_with
  d_law_caught : DefAt K mg "_law_caught" ["disk", "group", "changes"] s_law_caught
  d_law : DefAt K mg "law" ["script"] s_law
  b_abs : mg "abs" = none
  b_all : mg "all" = none
  b_any : mg "any" = none
  b_bool : mg "bool" = none
  b_enumerate : mg "enumerate" = none
  b_int : mg "int" = none
  b_isinstance : mg "isinstance" = none
  b_len : mg "len" = none
  b_list : mg "list" = none
  b_max : mg "max" = none
  b_min : mg "min" = none
  b_range : mg "range" = none
  b_repr : mg "repr" = none
  b_str : mg "str" = none
  b_tuple : mg "tuple" = none
  b_zip : mg "zip" = none
  e_NotEmpty : ∃ C, ExcF K mg "NotEmpty" C
  e_NoRoom : ∃ C, ExcF K mg "NoRoom" C
  e_WireError : ∃ C, ExcF K mg "WireError" C
  m_NotEmpty_NotEmpty : ∀ C D, mg "NotEmpty" = some (.ref C) → mg "NotEmpty" = some (.ref D) → PySem.W.subIn K (.ref C) (.ref D) = some true
  m_NotEmpty_NoRoom : ∀ C D, mg "NotEmpty" = some (.ref C) → mg "NoRoom" = some (.ref D) → PySem.W.subIn K (.ref C) (.ref D) = some false
  m_NotEmpty_WireError : ∀ C D, mg "NotEmpty" = some (.ref C) → mg "WireError" = some (.ref D) → PySem.W.subIn K (.ref C) (.ref D) = some true
  m_NoRoom_NotEmpty : ∀ C D, mg "NoRoom" = some (.ref C) → mg "NotEmpty" = some (.ref D) → PySem.W.subIn K (.ref C) (.ref D) = some false
  m_NoRoom_NoRoom : ∀ C D, mg "NoRoom" = some (.ref C) → mg "NoRoom" = some (.ref D) → PySem.W.subIn K (.ref C) (.ref D) = some true
  m_NoRoom_WireError : ∀ C D, mg "NoRoom" = some (.ref C) → mg "WireError" = some (.ref D) → PySem.W.subIn K (.ref C) (.ref D) = some true
  m_WireError_NotEmpty : ∀ C D, mg "WireError" = some (.ref C) → mg "NotEmpty" = some (.ref D) → PySem.W.subIn K (.ref C) (.ref D) = some false
  m_WireError_NoRoom : ∀ C D, mg "WireError" = some (.ref C) → mg "NoRoom" = some (.ref D) → PySem.W.subIn K (.ref C) (.ref D) = some false
  m_WireError_WireError : ∀ C D, mg "WireError" = some (.ref C) → mg "WireError" = some (.ref D) → PySem.W.subIn K (.ref C) (.ref D) = some true
section
variable {P : Program} {w : World} {K : PySem.W.Frag} {mg : Str → Option Value} {base : Heap}
/-! ## The deck: [digits left, a number mixed of all, draws made], and draws from it -/
/-- all that is tracked stays, but for d -/
def Kp (d : Addr) (H H' : Hp) : Prop := ∀ a o, a ≠ d → H a = some o → H' a = some o
theorem Kp.refl (d : Addr) (H : Hp) : Kp d H H := fun _ _ _ h => h
theorem Kp.trans {d : Addr} {H H1 H2 : Hp} (a : Kp d H H1) (b : Kp d H1 H2) : Kp d H H2 := fun c o n h => b c o n (a c o n h)
theorem Kp.new {d p : Addr} {H H' : Hp} {o : HO} (a : Kp d H H') (h : H' p = none) : Kp d H (upd H' p o) := fun c u n e => by
  have e1 := a c u n e
  rw [upd_ne (ne_of_none e1 h)]
  exact e1
theorem Kp.seq {K : PySem.W.Frag} {d a : Addr} {H H' : Hp} {xs : List V} (k : Kp d H H') (n : a ≠ d) (h : SqL K H a xs) : SqL K H' a xs := by
  rcases h with (h | ⟨o, h⟩) | h
  · exact .inl (.inl (k _ _ n h))
  · exact .inl (.inr ⟨o, k _ _ n h⟩)
  · exact .inr h
theorem Kp.free {d a : Addr} {H H' : Hp} (k : Kp d H H') (n : a ≠ d) (h : H' a = none) : H a = none := by
  cases q : H a with
  | none => rfl
  | some o => rw [k a o n q] at h; cases h
theorem Kp.put {d p : Addr} {H H' : Hp} {o : HO} (a : Kp d H H') (h : H p = none) : Kp d H (upd H' p o) := fun c u n e => by
  rw [upd_ne (ne_of_none e h)]
  exact a c u n e
theorem Kp.at {d p : Addr} {H H' : Hp} {o : HO} (k : Kp d (upd H p o) H') (n : d ≠ p) : H' p = some o := k p _ n.symm upd_same
/-- a deck from which at most m draws were made -/
def Dk (d : Addr) (m : Nat) (H : Hp) : Prop := ∃ x y c : Int, H d = some (.lst [.int x, .int y, .int c]) ∧ 0 ≤ x ∧ 0 ≤ y ∧ y < 10 ^ 70 ∧ 0 ≤ c ∧ c ≤ m
theorem Dk.mono {d : Addr} {m n : Nat} {H : Hp} (h : Dk d m H) (l : m ≤ n) : Dk d n H := by
  obtain ⟨x, y, c, h1, h2, h3, h4, h5, h6⟩ := h
  exact ⟨x, y, c, h1, h2, h3, h4, h5, by omega⟩
theorem Dk.new {d p : Addr} {m : Nat} {H : Hp} {o : HO} (h : Dk d m H) (n : H p = none) : Dk d m (upd H p o) := by
  obtain ⟨x, y, c, h1, h2⟩ := h
  refine ⟨x, y, c, ?_, h2⟩
  rw [upd_ne (ne_of_none h1 n)]
  exact h1
theorem Dk.put {d p : Addr} {m : Nat} {H : Hp} {o : HO} (h : Dk d m H) (n : d ≠ p) : Dk d m (upd H p o) := by
  obtain ⟨x, y, c, h1, h2⟩ := h
  exact ⟨x, y, c, by rw [upd_ne n]; exact h1, h2⟩
theorem Dk.ne {d p : Addr} {m : Nat} {H : Hp} (h : Dk d m H) (n : H p = none) : d ≠ p := by
  obtain ⟨x, y, c, h1, h2⟩ := h
  exact ne_of_none h1 n
theorem Kp.of {d : Addr} {H H' : Hp} (h : Same H H') : Kp d H H' := fun a o _ e => h a o e
theorem Dk.same {d : Addr} {m : Nat} {H H' : Hp} (h : Dk d m H) (k : Same H H') : Dk d m H' := by
  obtain ⟨x, y, c, h1, h2⟩ := h
  exact ⟨x, y, c, k _ _ h1, h2⟩
theorem Dk.ne' {d p : Addr} {m : Nat} {H H' : Hp} (h : Dk d m H) (k : Kp d H H') (n : H p = none) : p ≠ d := (h.ne n).symm
/-- draws that may be made at all -/
def LIM : Nat := 1000000000
def Φ_law_draw (K : PySem.W.Frag) (vd vm : V) (H : Hp) (Q : VK) : Prop := ∃ (d : Addr) (n : Int) (m : Nat), vd = .ref d ∧ vm = .int n ∧ 0 < n ∧ n < 1073741824 ∧ Dk d m H ∧ m < LIM ∧
  ∀ (v : Int) (H' : Hp), 0 ≤ v → v < n → Dk d (m + 1) H' → Kp d H H' → Q (.int v) H'
theorem use_draw {K : PySem.W.Frag} {d : Addr} {n : Int} {m : Nat} {H : Hp} {Q : VK} (hd : Dk d m H) (h0 : 0 < n) (h1 : n < 1073741824) (hm : m < LIM)
    (q : ∀ (v : Int) (H' : Hp), 0 ≤ v → v < n → Dk d (m + 1) H' → Kp d H H' → Q (.int v) H') : Φ_law_draw K (.ref d) (.int n) H Q := ⟨d, n, m, rfl, rfl, h0, h1, hd, hm, q⟩
theorem divOk {i j : Int} (h0 : 0 < j) (h1 : j < 1073741824) : CDivW i j := wide_div (b := 64) h0 (by omega) (by decide) (by decide)
theorem bits_lt {i : Int} {n : Nat} (h0 : 0 ≤ i) (h1 : i < 2 ^ n) (hn : 0 < n) : Builtin.Int.intBits i ≤ n := by
  unfold Builtin.Int.intBits
  split
  · omega
  · have : i.natAbs < 2 ^ n := by
      have e : ((2 ^ n : Nat) : Int) = 2 ^ n := by norm_cast
      omega
    have := PySem.Flt.log2_lt_of hn this
    omega
def Φ_law_deck (K : PySem.W.Frag) (vs vk : V) (H : Hp) (Q : VK) : Prop := ∃ (a : Addr) (ns : List Int) (k : Int), vs = .ref a ∧ vk = .int k ∧ SqL K H a (ns.map V.int) ∧ ns.length ≤ 63 ∧ 0 ≤ k ∧ k < 64 ∧
  ∀ (d : Addr) (H' : Hp), H d = none → Dk d 0 H' → Same H H' → Q (.ref d) H'
theorem atI_int {ns : List Int} {k : Int} (h0 : 0 ≤ k) (h1 : k < ns.length) : ∃ z, atI (ns.map V.int) k = some (V.int z) := by
  obtain ⟨j, rfl⟩ : ∃ j : Nat, k = (j : Int) := ⟨k.toNat, by omega⟩
  have hj : j < ns.length := by omega
  exact ⟨ns[j], atI_nat (by rw [List.getElem?_map, List.getElem?_eq_getElem hj]; rfl)⟩
/-- a promise: draws at most c, a text of at most L signs -/
def TxtOf (L c : Nat) (vd : V) (H : Hp) (Q : VK) : Prop := ∃ (d : Addr) (m : Nat), vd = .ref d ∧ Dk d m H ∧ m + c ≤ LIM ∧ ∀ (z : Str) (H' : Hp), z.length ≤ L → Dk d (m + c) H' → Kp d H H' → Q (.str z) H'
/-- a promise: draws at most 10, a text of at most two signs more -/
def BentOf (K : PySem.W.Frag) (vd vp : V) (H : Hp) (Q : VK) : Prop := ∃ (d : Addr) (z : Str) (m : Nat), vd = .ref d ∧ vp = .str z ∧ z.length ≤ 500 ∧ Dk d m H ∧ m + 10 ≤ LIM ∧
  ∀ (y : Str) (H' : Hp), y.length ≤ z.length + 2 → Dk d (m + 10) H' → Kp d H H' → Q (.str y) H'

/-! ### disks: values and slots -/
inductive It where
  | en (g n : Nat)
  | pu (g p v : Nat)
abbrev Slt := Option It
def nD (n : Nat) : PyData := .int (n : Int)
def slD : Slt → PyData
  | none => .none
  | some (.en g n) => .tuple [.str "end", nD g, nD n]
  | some (.pu g p v) => .tuple [.str "put", nD g, nD p, nD v]
def dkD (vs : List Nat) (ss : List Slt) : PyData := .tuple [.tuple (vs.map nD), .tuple (ss.map slD)]
def Iok (m : Nat) : Slt → Prop
  | none => True
  | some (.en g n) => g ≤ 99 ∧ n ≤ 8
  | some (.pu g p v) => g ≤ 99 ∧ p < m ∧ v ≤ 999
structure Dok (vs : List Nat) (ss : List Slt) : Prop where
  v1 : 1 ≤ vs.length
  v6 : vs.length ≤ 6
  vv : ∀ v ∈ vs, v ≤ 999
  s2 : 2 ≤ ss.length
  s8 : ss.length ≤ 8
  it : ∀ x ∈ ss, Iok vs.length x
/-- a write -/
inductive Wr where
  | va (i v : Nat)
  | sl (i : Nat) (x : Slt)
def wrD : Wr → PyData
  | .va i v => .tuple [.str "value", nD i, nD v]
  | .sl i x => .tuple [.str "slot", nD i, slD x]
def Wrok (m k : Nat) : Wr → Prop
  | .va i v => i < m ∧ v ≤ 999
  | .sl i x => i < k ∧ Iok m x
def wrote : List Nat × List Slt → Wr → List Nat × List Slt
  | (vs, ss), .va i v => (vs.set i v, ss)
  | (vs, ss), .sl i x => (vs, ss.set i x)
def isEnd : Slt → Bool
  | some (.en _ _) => true
  | _ => false
def isPut (g : Nat) : Slt → Bool
  | some (.pu h _ _) => decide (h = g)
  | _ => false
def place : Slt → Int
  | some (.pu _ p _) => p
  | _ => 0
def pairD : Slt → PyData
  | some (.pu _ p v) => .tuple [nD p, nD v]
  | _ => .none
def grp : Slt → Int
  | some (.en g _) => g
  | _ => 0
def places (ss : List Slt) (g : Nat) : List Int := (ss.filter (isPut g)).map place
def whole (ss : List Slt) : Slt → Bool
  | some (.en g n) => decide ((places ss g).length = n) && decide ((dist (places ss g)).length = n)
  | _ => false
def groups (ss : List Slt) : List Int := ((ss.filter isEnd).filter (whole ss)).map grp
/-- the least one -/
def mn : List Int → Option Int
  | [] => none
  | x :: xs => match mn xs with
    | none => some x
    | some y => some (min x y)
theorem mn_none : ∀ {l : List Int}, mn l = none ↔ l = []
  | [] => ⟨fun _ => rfl, fun _ => rfl⟩
  | x :: xs => by
    refine ⟨fun h => ?_, fun h => nomatch h⟩
    unfold mn at h
    split at h <;> cases h
theorem mn_spec : ∀ {l : List Int} {m : Int}, mn l = some m → m ∈ l ∧ ∀ y ∈ l, m ≤ y
  | [], _, h => nomatch h
  | x :: xs, m, h => by
    unfold mn at h
    split at h
    · rename_i e
      rw [mn_none.mp e]
      cases h
      exact ⟨List.mem_cons_self, fun y hy => by rw [List.mem_singleton.mp hy]; exact Int.le_refl _⟩
    · rename_i y e
      obtain ⟨h1, h2⟩ := mn_spec e
      cases h
      refine ⟨?_, fun z hz => ?_⟩
      · rcases Int.le_total x y with c | c
        · rw [Int.min_eq_left c]; exact List.mem_cons_self
        · rw [Int.min_eq_right c]; exact List.mem_cons_of_mem _ h1
      · rcases List.mem_cons.mp hz with rfl | hz
        · exact Int.min_le_left _ _
        · exact Int.le_trans (Int.min_le_right _ _) (h2 z hz)
theorem mn_of {l : List Int} {m : Int} (h1 : m ∈ l) (h2 : ∀ y ∈ l, m ≤ y) : mn l = some m := by
  cases e : mn l with
  | none => rw [mn_none.mp e] at h1; cases h1
  | some k =>
    obtain ⟨a, b⟩ := mn_spec e
    exact congrArg some (Int.le_antisymm (b m h1) (h2 k a))
def optV : Option Int → V
  | none => .non
  | some g => .int g
def putAll (vs : List Nat) : List Slt → List Nat
  | [] => vs
  | some (.pu _ p v) :: ss => putAll (vs.set p v) ss
  | _ :: ss => putAll vs ss
def back (vs : List Nat) (ss : List Slt) : List Nat := match mn (groups ss) with
  | none => vs
  | some g => putAll vs (ss.filter (isPut g.toNat))
theorem putAll_len : ∀ (ss : List Slt) (vs : List Nat), (putAll vs ss).length = vs.length
  | [], _ => rfl
  | none :: ss, vs => putAll_len ss vs
  | some (.en _ _) :: ss, vs => putAll_len ss vs
  | some (.pu _ p v) :: ss, vs => by
    show (putAll (vs.set p v) ss).length = _
    rw [putAll_len ss, List.length_set]
theorem putAll_le : ∀ (ss : List Slt) {vs : List Nat} {m : Nat}, (∀ v ∈ vs, v ≤ 999) → (∀ x ∈ ss, Iok m x) → ∀ v ∈ putAll vs ss, v ≤ 999
  | [], _, _, h, _ => h
  | none :: ss, _, _, h, k => putAll_le ss h fun x hx => k x (List.mem_cons_of_mem _ hx)
  | some (.en _ _) :: ss, _, _, h, k => putAll_le ss h fun x hx => k x (List.mem_cons_of_mem _ hx)
  | some (.pu g p v) :: ss, vs, _, h, k => putAll_le ss (vs := vs.set p v) (fun x hx => by
      rcases List.mem_or_eq_of_mem_set hx with q | q
      · exact h x q
      · rw [q]; exact (k _ List.mem_cons_self).2.2) fun x hx => k x (List.mem_cons_of_mem _ hx)
theorem back_len (vs : List Nat) (ss : List Slt) : (back vs ss).length = vs.length := by
  unfold back
  split
  · rfl
  · exact putAll_len _ _
theorem back_ok {vs : List Nat} {ss : List Slt} (h : Dok vs ss) : Dok (back vs ss) (List.replicate ss.length none) where
  v1 := by rw [back_len]; exact h.v1
  v6 := by rw [back_len]; exact h.v6
  vv := by
    unfold back
    split
    · exact h.vv
    · exact putAll_le _ h.vv fun x hx => h.it x (List.mem_filter.mp hx).1
  s2 := by rw [List.length_replicate]; exact h.s2
  s8 := by rw [List.length_replicate]; exact h.s8
  it := fun x hx => by rw [(List.mem_replicate.mp hx).2]; exact True.intro
theorem wrote_ok {vs : List Nat} {ss : List Slt} {w : Wr} (h : Dok vs ss) (hw : Wrok vs.length ss.length w) : Dok (wrote (vs, ss) w).1 (wrote (vs, ss) w).2 ∧ (wrote (vs, ss) w).1.length = vs.length ∧ (wrote (vs, ss) w).2.length = ss.length := by
  cases w with
  | va i v =>
    refine ⟨⟨?_, ?_, fun x hx => ?_, h.s2, h.s8, fun x hx => ?_⟩, List.length_set, rfl⟩
    · show 1 ≤ (vs.set i v).length; rw [List.length_set]; exact h.v1
    · show (vs.set i v).length ≤ 6; rw [List.length_set]; exact h.v6
    · rcases List.mem_or_eq_of_mem_set hx with q | q
      · exact h.vv x q
      · rw [q]; exact hw.2
    · show Iok (vs.set i v).length x; rw [List.length_set]; exact h.it x hx
  | sl i x =>
    refine ⟨⟨h.v1, h.v6, h.vv, ?_, ?_, fun y hy => ?_⟩, rfl, List.length_set⟩
    · show 2 ≤ (ss.set i x).length; rw [List.length_set]; exact h.s2
    · show (ss.set i x).length ≤ 8; rw [List.length_set]; exact h.s8
    · rcases List.mem_or_eq_of_mem_set hy with q | q
      · exact h.it y q
      · rw [q]; exact hw.2
theorem wrotes_ok : ∀ {ws : List Wr} {vs : List Nat} {ss : List Slt}, Dok vs ss → (∀ w ∈ ws, Wrok vs.length ss.length w) → Dok (ws.foldl wrote (vs, ss)).1 (ws.foldl wrote (vs, ss)).2 ∧ (ws.foldl wrote (vs, ss)).1.length = vs.length ∧ (ws.foldl wrote (vs, ss)).2.length = ss.length
  | [], _, _, h, _ => ⟨h, rfl, rfl⟩
  | w :: ws, vs, ss, h, k => by
    obtain ⟨a, b, c⟩ := wrote_ok h (k w List.mem_cons_self)
    obtain ⟨d, e, f⟩ := wrotes_ok (ws := ws) a (fun x hx => by rw [b, c]; exact k x (List.mem_cons_of_mem _ hx))
    rw [List.foldl_cons]
    exact ⟨d, e.trans b, f.trans c⟩
theorem groups_none (n : Nat) : groups (List.replicate n none) = [] := by
  have : (List.replicate n (none : Slt)).filter isEnd = [] := by
    rw [List.filter_eq_nil_iff]
    intro x hx
    rw [(List.mem_replicate.mp hx).2]
    exact Bool.false_ne_true
  unfold groups
  rw [this]
  rfl
theorem back_none (vs : List Nat) (n : Nat) : back vs (List.replicate n none) = vs := by
  unfold back
  rw [groups_none]
  rfl
/-! bounds -/
theorem nD_bd {n : Nat} (h : n ≤ 999) : Bd 0 20 (nD n) := Bd.int (by omega)
theorem slD_bd {m : Nat} (hm : m ≤ 6) {x : Slt} (h : Iok m x) : Bd 1 84 (slD x) := by
  have b1 : Bd 0 20 (.str "end") := (Bd.str (by decide)).mono (Nat.le_refl _) (by decide)
  have b2 : Bd 0 20 (.str "put") := (Bd.str (by decide)).mono (Nat.le_refl _) (by decide)
  cases x with
  | none => exact Bd.non.mono (by omega) (by omega)
  | some x =>
    cases x with
    | en g n =>
      refine (Bd.tup (k := 0) (w := 20) fun d hd => ?_).mono (by omega) (by show 3 * 21 ≤ 84; omega)
      obtain ⟨h1, h2⟩ := h
      simp only [List.mem_cons, List.not_mem_nil, or_false] at hd
      rcases hd with rfl | rfl | rfl
      · exact b1
      · exact nD_bd (by omega)
      · exact nD_bd (by omega)
    | pu g p v =>
      refine (Bd.tup (k := 0) (w := 20) fun d hd => ?_).mono (by omega) (by show 4 * 21 ≤ 84; omega)
      obtain ⟨h1, h2, h3⟩ := h
      simp only [List.mem_cons, List.not_mem_nil, or_false] at hd
      rcases hd with rfl | rfl | rfl | rfl
      · exact b2
      · exact nD_bd (by omega)
      · exact nD_bd (by omega)
      · exact nD_bd (by omega)
theorem dkD_bd {vs : List Nat} {ss : List Slt} (h : Dok vs ss) : Bd 3 2000 (dkD vs ss) := by
  have b1 : Bd 2 700 (.tuple (vs.map nD)) := (Bd.tup (k := 0) (w := 20) fun d hd => by
    obtain ⟨v, hv, rfl⟩ := List.mem_map.mp hd
    exact nD_bd (h.vv v hv)).mono (by omega) (by rw [List.length_map]; have := h.v6; omega)
  have b2 : Bd 2 700 (.tuple (ss.map slD)) := (Bd.tup (k := 1) (w := 84) fun d hd => by
    obtain ⟨v, hv, rfl⟩ := List.mem_map.mp hd
    exact slD_bd h.v6 (h.it v hv)).mono (by omega) (by rw [List.length_map]; have := h.s8; omega)
  refine (Bd.tup (k := 2) (w := 700) fun d hd => ?_).mono (by omega) (by show 2 * 701 ≤ 2000; omega)
  simp only [List.mem_cons, List.not_mem_nil, or_false] at hd
  rcases hd with rfl | rfl
  · exact b1
  · exact b2
theorem wrD_bd {m k : Nat} (hm : m ≤ 6) (hk : k ≤ 8) {w : Wr} (h : Wrok m k w) : Bd 2 300 (wrD w) := by
  have b1 : Bd 1 84 (.str "value") := (Bd.str (by decide)).mono (by omega) (by decide)
  have b2 : Bd 1 84 (.str "slot") := (Bd.str (by decide)).mono (by omega) (by decide)
  cases w with
  | va i v =>
    obtain ⟨h1, h2⟩ := h
    refine (Bd.tup (k := 1) (w := 84) fun d hd => ?_).mono (by omega) (by show 3 * 85 ≤ 300; omega)
    simp only [List.mem_cons, List.not_mem_nil, or_false] at hd
    rcases hd with rfl | rfl | rfl
    · exact b1
    · exact (nD_bd (by omega)).mono (by omega) (by omega)
    · exact (nD_bd (by omega)).mono (by omega) (by omega)
  | sl i x =>
    obtain ⟨h1, h2⟩ := h
    refine (Bd.tup (k := 1) (w := 84) fun d hd => ?_).mono (by omega) (by show 3 * 85 ≤ 300; omega)
    simp only [List.mem_cons, List.not_mem_nil, or_false] at hd
    rcases hd with rfl | rfl | rfl
    · exact b2
    · exact (nD_bd (by omega)).mono (by omega) (by omega)
    · exact slD_bd hm h2
/-! no bools -/
theorem nD_noB (n : Nat) : noB (nD n) = true := rfl
theorem slD_noB (x : Slt) : noB (slD x) = true := by
  cases x with
  | none => rfl
  | some x => cases x <;> rfl
theorem dkD_noB (vs : List Nat) (ss : List Slt) : noB (dkD vs ss) = true := by
  show (noBs (vs.map nD) && (noBs (ss.map slD) && true)) = true
  rw [noBs_map nD nD_noB, noBs_map slD slD_noB]
  rfl
theorem eqv_self {d : PyData} (h : noB d = true) : PyData.eqv d d = true := (eqv_iff d d h h).mpr rfl
theorem wrote_lens : ∀ (ws : List Wr) (vs : List Nat) (ss : List Slt), (ws.foldl wrote (vs, ss)).1.length = vs.length ∧ (ws.foldl wrote (vs, ss)).2.length = ss.length
  | [], _, _ => ⟨rfl, rfl⟩
  | .va i v :: ws, vs, ss => by
    obtain ⟨a, b⟩ := wrote_lens ws (vs.set i v) ss
    exact ⟨a.trans List.length_set, b⟩
  | .sl i x :: ws, vs, ss => by
    obtain ⟨a, b⟩ := wrote_lens ws vs (ss.set i x)
    exact ⟨a, b.trans List.length_set⟩
theorem dkD_self (vs : List Nat) (ss : List Slt) : PyData.eqv (dkD vs ss) (dkD vs ss) = true := eqv_self (dkD_noB vs ss)

/-! ## The program's disks -/
theorem ite_and {A B : Bool} {C D : Prop} (h1 : A = false → D) (h2 : A = true → B = false → D) (h3 : A = true → B = true → C) : if (A && B) = true then C else D := by
  cases A <;> cases B
  · exact h1 rfl
  · exact h1 rfl
  · exact h2 rfl rfl
  · exact h3 rfl rfl
theorem chain_end {A B : Bool} {Q : VK} {H : Hp} {t : Prop} (q : Q (.bl (A && B)) H) (h : Q (.bl B) H → t) : if A = true then t else Q (.bl false) H := by
  cases A with
  | true => exact h q
  | false => exact q
def Φ_is_from (K : PySem.W.Frag) (v a b : V) (H : Hp) (Q : VK) : Prop := ∃ i x y : Int, v = .int i ∧ a = .int x ∧ b = .int y ∧ Q (.bl (decide (x ≤ i) && decide (i ≤ y))) H
theorem from_yes {K : PySem.W.Frag} {i x y : Int} {H : Hp} {Q : VK} (h1 : x ≤ i) (h2 : i ≤ y) (q : Q (.bl true) H) : Φ_is_from K (.int i) (.int x) (.int y) H Q := ⟨i, x, y, rfl, rfl, rfl, by rw [decide_eq_true h1, decide_eq_true h2]; exact q⟩
theorem ok_is_from (T : Txt P K mg) {f : Addr} {fd : FuncData} (F : Fun K "is_from" "is_from" s_is_from f fd) : Keeps P w K mg base CX0 1 f fd ["value", "low", "high"] (sp3 (Φ_is_from K)) := by
  refine keeps0_of F sc_is_from (fun vs H Q E h => ?_) (fun cdv A outer s H vs Q E hr h => ?_)
  · obtain ⟨_, _, _, rfl, _⟩ := h
    rfl
  obtain ⟨v_value, v_low, v_high, rfl, h⟩ := h
  have hu := hr.hu
  refine ⟨_, (pss_one (ps_ret (pe_and (pe_callB (isiX (K := K)) (by rfl) T.b_isinstance (by decide +kernel) (pa_cons (pv 0) (pa_cons (pe_bltn (v := .ty "int") (by rfl) T.b_int (by decide +kernel) rfl) pa_nil))) (pe_and (pe_not (pe_callB (isiX (K := K)) (by rfl) T.b_isinstance (by decide +kernel) (pa_cons (pv 0) (pa_cons (pe_bltn (v := .ty "bool") (by rfl) T.b_bool (by decide +kernel) rfl) pa_nil)))) (pe_one (pe_chain oLe oLe (pv 1) (pv 0) (pv 2))))))), ?_⟩
  rw [show start ["value", "low", "high"] [v_value, v_low, v_high] = [some v_value, some v_low, some v_high] from rfl]
  try dsimp only [cxOf, Cx.nox, Cx.wish]
  obtain ⟨i, x, y, rfl, rfl, rfl, q⟩ := h
  walk_at "rd"
  refine chain_end (Q := Q) q fun q => ?_
  walk_at "rd"
  exact q
def Φ_is_tuple (K : PySem.W.Frag) (v a b : V) (H : Hp) (Q : VK) : Prop := ∃ (t : Addr) (xs : List V) (x y : Int), v = .ref t ∧ H t = some (.tup xs) ∧ a = .int x ∧ b = .int y ∧ Q (.bl (decide (x ≤ xs.length) && decide ((xs.length : Int) ≤ y))) H
theorem tup_yes {K : PySem.W.Frag} {t : Addr} {xs : List V} {x y : Int} {H : Hp} {Q : VK} (h : H t = some (.tup xs)) (h1 : x ≤ xs.length) (h2 : (xs.length : Int) ≤ y) (q : Q (.bl true) H) : Φ_is_tuple K (.ref t) (.int x) (.int y) H Q := ⟨t, xs, x, y, rfl, h, rfl, rfl, by rw [decide_eq_true h1, decide_eq_true h2]; exact q⟩
theorem ok_is_tuple (T : Txt P K mg) {f : Addr} {fd : FuncData} (F : Fun K "is_tuple" "is_tuple" s_is_tuple f fd) : Keeps P w K mg base CX0 1 f fd ["value", "low", "high"] (sp3 (Φ_is_tuple K)) := by
  refine keeps0_of F sc_is_tuple (fun vs H Q E h => ?_) (fun cdv A outer s H vs Q E hr h => ?_)
  · obtain ⟨_, _, _, rfl, _⟩ := h
    rfl
  obtain ⟨v_value, v_low, v_high, rfl, h⟩ := h
  have hu := hr.hu
  refine ⟨_, (pss_one (ps_ret (pe_and (pe_callB (isiX (K := K)) (by rfl) T.b_isinstance (by decide +kernel) (pa_cons (pv 0) (pa_cons (pe_bltn (v := .ty "tuple") (by rfl) T.b_tuple (by decide +kernel) rfl) pa_nil))) (pe_one (pe_chain oLe oLe (pv 1) (pe_callB (call_lenX (K := K)) (by rfl) T.b_len (by decide +kernel) (pa_cons (pv 0) pa_nil)) (pv 2)))))), ?_⟩
  rw [show start ["value", "low", "high"] [v_value, v_low, v_high] = [some v_value, some v_low, some v_high] from rfl]
  try dsimp only [cxOf, Cx.nox, Cx.wish]
  obtain ⟨t, xs, x, y, rfl, ht, rfl, rfl, q⟩ := h
  walk_at "rd"
  refine rd_isiT ht ?_
  walk_at "rd"
  refine rd_lenT (SqT.of ht) ?_
  walk_at "rd"
  refine chain_end (Q := Q) q fun q => ?_
  walk_at "rd"
  exact q
def Φ_is_item (K : PySem.W.Frag) (vm v : V) (H : Hp) (Q : VK) : Prop := ∃ (m : Nat) (x : Slt), vm = .int m ∧ Im H v (slD x) ∧ Iok m x ∧ Q (.bl true) H
theorem ok_is_item (T : Txt P K mg) {f : Addr} {fd : FuncData} (F : Fun K "is_item" "is_item" s_is_item f fd) : Keeps P w K mg base CX0 2 f fd ["many", "value"] (sp2 (Φ_is_item K)) := by
  have c_is_from := cal (P := P) (w := w) (base := base) T.d_is_from fun F => ok_is_from T F
  have c_is_tuple := cal (P := P) (w := w) (base := base) T.d_is_tuple fun F => ok_is_tuple T F
  refine keeps0_of F sc_is_item (fun vs H Q E h => ?_) (fun cdv A outer s H vs Q E hr h => ?_)
  · obtain ⟨_, _, rfl, _⟩ := h
    rfl
  obtain ⟨v_many, v_value, rfl, h⟩ := h
  have hu := hr.hu
  refine ⟨_, (pss_cons (ps_if (pt_cmpR oIs (pv 1) pe_non (nomark _)) (pss_one (ps_ret pe_bl)) pss_nil)
      (pss_cons (ps_if (PW.pt (pw_or (pt_not (pt_val (pe_cal c_is_tuple (hr.mono (by decide)) (by rfl) pass0 (pa_cons (pv 1) (pa_cons pe_int (pa_cons pe_int pa_nil)))))) (pw_or (pt_not (pt_val (pe_callB (isiX (K := K)) (by rfl) T.b_isinstance (by decide +kernel) (pa_cons (pe_ix (ixX (K := K)) (pv 1) pe_int (fun _ _ => rfl)) (pa_cons (pe_bltn (v := .ty "str") (by rfl) T.b_str (by decide +kernel) rfl) pa_nil))))) (pw_or1 (pt_not (pt_val (pe_cal c_is_from (hr.mono (by decide)) (by rfl) pass0 (pa_cons (pe_ix (ixX (K := K)) (pv 1) pe_int (fun _ _ => rfl)) (pa_cons pe_int (pa_cons (pe_gk (by rfl) T.c_MOST_GROUP) pa_nil)))))))))) (pss_one (ps_ret pe_bl)) pss_nil)
      (pss_cons (ps_if (pt_cmpR (oEq (K := K) hr.u65) (pe_callB (call_lenX (K := K)) (by rfl) T.b_len (by decide +kernel) (pa_cons (pv 1) pa_nil)) pe_int (nomark _)) (pss_one (ps_ret (pe_and (pe_cmpR (oEq (K := K) hr.u65) (pe_ix (ixX (K := K)) (pv 1) pe_int (fun _ _ => rfl)) pe_str (nomark _)) (pe_one (pe_cal c_is_from (hr.mono (by decide)) (by rfl) pass0 (pa_cons (pe_ix (ixX (K := K)) (pv 1) pe_int (fun _ _ => rfl)) (pa_cons pe_int (pa_cons (pe_gk (by rfl) T.c_MOST_SLOTS) pa_nil)))))))) pss_nil)
      (pss_one (ps_ret (pe_and (pe_cmpR (oEq (K := K) hr.u65) (pe_ix (ixX (K := K)) (pv 1) pe_int (fun _ _ => rfl)) pe_str (nomark _)) (pe_and (pe_cal c_is_from (hr.mono (by decide)) (by rfl) pass0 (pa_cons (pe_ix (ixX (K := K)) (pv 1) pe_int (fun _ _ => rfl)) (pa_cons pe_int (pa_cons (pe_op oSub (pv 0) pe_int) pa_nil)))) (pe_one (pe_cal c_is_from (hr.mono (by decide)) (by rfl) pass0 (pa_cons (pe_ix (ixX (K := K)) (pv 1) pe_int (fun _ _ => rfl)) (pa_cons pe_int (pa_cons (pe_gk (by rfl) T.c_MOST_VALUE) pa_nil)))))))))))), ?_⟩
  rw [show start ["many", "value"] [v_many, v_value] = [some v_many, some v_value] from rfl]
  try dsimp only [cxOf, Cx.nox, Cx.wish]
  obtain ⟨m, x, rfl, im, ok, q⟩ := h
  cases x with
  | none =>
    obtain rfl := im.n
    walk_at "rd"
    refine rd_yesI (decide_eq_true rfl) ?_
    walk_at "rd"
    exact q
  | some x =>
    cases x with
    | en g n =>
      obtain ⟨t, a, b, c, rfl, ht, ia, ib, ic⟩ := im.t3
      obtain rfl := ia.s
      obtain rfl := ib.i
      obtain rfl := ic.i
      obtain ⟨h1, h2⟩ := ok
      walk_at "rd"
      refine rd_noI (decide_eq_false (fun e => nomatch e)) ?_
      walk_at "rd"
      refine tup_yes ht (by show (3 : Int) ≤ 3; decide) (by show (3 : Int) ≤ 4; decide) ?_
      walk_at "rd"
      refine from_yes (by omega) (by omega) ?_
      walk_at "rd"
      refine rd_lenT (SqT.of ht) ?_
      walk_at "rd"
      refine rd_yesI (decide_eq_true rfl) ?_
      walk_at "rd"
      refine rd_yesI (decide_eq_true rfl) ?_
      walk_at "rd"
      exact from_yes (by omega) (by omega) q
    | pu g p v =>
      obtain ⟨t, a, b, c, d, rfl, ht, ia, ib, ic, id⟩ := im.t4
      obtain rfl := ia.s
      obtain rfl := ib.i
      obtain rfl := ic.i
      obtain rfl := id.i
      obtain ⟨h1, h2, h3⟩ := ok
      walk_at "rd"
      refine rd_noI (decide_eq_false (fun e => nomatch e)) ?_
      walk_at "rd"
      refine tup_yes ht (by show (3 : Int) ≤ 4; decide) (by show (4 : Int) ≤ 4; decide) ?_
      walk_at "rd"
      refine from_yes (by omega) (by omega) ?_
      walk_at "rd"
      refine rd_lenT (SqT.of ht) ?_
      walk_at "rd"
      refine rd_noI (by rfl) ?_
      walk_at "rd"
      refine rd_yesI (decide_eq_true rfl) ?_
      walk_at "rd"
      refine from_yes (by omega) (by omega) ?_
      walk_at "rd"
      exact from_yes (by omega) (by omega) q
/-- a list of True's -/
theorem all_true (n : Nat) : (List.replicate n true).all id = true := by simp
def Φ_is_a_disk (K : PySem.W.Frag) (v : V) (H : Hp) (Q : VK) : Prop := ∃ (vs : List Nat) (ss : List Slt), Im H v (dkD vs ss) ∧ Dok vs ss ∧ ∀ H', Same H H' → Q (.bl true) H'
/-- a comprehension that tells True of all -/
theorem im_bls {H : Hp} {α : Type} {as : List α} {ys : List V} (h : ImAll H ys ((as.filter fun _ => true).map fun _ => PyData.bool true)) : ys = (List.replicate as.length true).map V.bl := by
  rw [List.filter_eq_self.mpr (fun _ _ => rfl)] at h
  induction as generalizing ys with
  | nil => cases h; rfl
  | cons a as ih =>
    cases h with
    | cons h1 h2 =>
      rw [h1.b, ih h2]
      rfl
theorem ok_is_a_disk (T : Txt P K mg) {f : Addr} {fd : FuncData} (F : Fun K "is_a_disk" "is_a_disk" s_is_a_disk f fd) : Keeps P w K mg base CX0 3 f fd ["value"] (sp1 (Φ_is_a_disk K)) := by
  have c_is_tuple := cal (P := P) (w := w) (base := base) T.d_is_tuple fun F => ok_is_tuple T F
  have c_is_item := cal (P := P) (w := w) (base := base) T.d_is_item fun F => ok_is_item T F
  have c_is_from := cal (P := P) (w := w) (base := base) T.d_is_from fun F => ok_is_from T F
  refine keeps0_of F sc_is_a_disk (fun vs H Q E h => ?_) (fun cdv A outer s H vs Q E hr h => ?_)
  · obtain ⟨_, rfl, _⟩ := h
    rfl
  obtain ⟨v_value, rfl, h⟩ := h
  have hu := hr.hu
  refine ⟨_, (pss_cons (ps_if (PW.pt (pw_or (pt_not (pt_val (pe_cal c_is_tuple (hr.mono (by decide)) (by rfl) pass0 (pa_cons (pv 0) (pa_cons pe_int (pa_cons pe_int pa_nil)))))) (pw_or1 (pt_not (pt_val (pe_cal c_is_tuple (hr.mono (by decide)) (by rfl) pass0 (pa_cons (pe_ix (ixX (K := K)) (pv 0) pe_int (fun _ _ => rfl)) (pa_cons pe_int (pa_cons (pe_gk (by rfl) T.c_MOST_VALUES) pa_nil))))))))) (pss_one (ps_ret pe_bl)) pss_nil)
      (pss_cons (ps_if (PW.pt (pw_or (pt_not (pt_val (pe_callB (allX (K := K) rfl) (by rfl) T.b_all (by decide +kernel) (pa_cons (pe_lc (own := [("one", 1)]) rfl sc_is_a_disk.nd (pi_any (K := K) (pe_ix (ixX (K := K)) (pv 0) pe_int (fun _ _ => rfl))) (blkOk_by (own := [("one", 1)]) (N := ["value", "one", "item"]) (sc := defScope s_is_a_disk) (by decide +kernel)) (fun _ _ _ _ _ => pg_name (i := 1) sc_is_a_disk.nd rfl (by first | exact Or.inl rfl | exact Or.inr rfl)) (fun _ _ _ _ _ => pts_nil) (fun _ _ _ _ _ => (pe_cal c_is_from (hr.mono (by decide)) (by rfl) pass0 (pa_cons (pv 1) (pa_cons pe_int (pa_cons (pe_gk (by rfl) T.c_MOST_VALUE) pa_nil)))))) pa_nil)))) (pw_or1 (pt_not (pt_val (pe_cal c_is_tuple (hr.mono (by decide)) (by rfl) pass0 (pa_cons (pe_ix (ixX (K := K)) (pv 0) pe_int (fun _ _ => rfl)) (pa_cons (pe_gk (by rfl) T.c_LEAST_SLOTS) (pa_cons (pe_gk (by rfl) T.c_MOST_SLOTS) pa_nil))))))))) (pss_one (ps_ret pe_bl)) pss_nil)
      (pss_one (ps_ret (pe_callB (allX (K := K) rfl) (by rfl) T.b_all (by decide +kernel) (pa_cons (pe_lc (own := [("item", 2)]) rfl sc_is_a_disk.nd (pi_any (K := K) (pe_ix (ixX (K := K)) (pv 0) pe_int (fun _ _ => rfl))) (blkOk_by (own := [("item", 2)]) (N := ["value", "one", "item"]) (sc := defScope s_is_a_disk) (by decide +kernel)) (fun _ _ _ _ _ => pg_name (i := 2) sc_is_a_disk.nd rfl (by first | exact Or.inl rfl | exact Or.inr rfl)) (fun _ _ _ _ _ => pts_nil) (fun _ _ _ _ _ => (pe_cal c_is_item (hr.mono (by decide)) (by rfl) pass0 (pa_cons (pe_callB (call_lenX (K := K)) (by rfl) T.b_len (by decide +kernel) (pa_cons (pe_ix (ixX (K := K)) (pv 0) pe_int (fun _ _ => rfl)) pa_nil)) (pa_cons (pv 2) pa_nil))))) pa_nil)))))), ?_⟩
  rw [show start ["value", "one", "item"] [v_value] = [some v_value, none, none] from rfl]
  try dsimp only [cxOf, Cx.nox, Cx.wish]
  obtain ⟨vs, ss, im, ok, q⟩ := h
  obtain ⟨t, a, b, rfl, ht, ia, ib⟩ := im.t2
  obtain ⟨ta, xs, rfl, ha, ixs⟩ := ia.tn
  obtain ⟨tb, ys, rfl, hb, iys⟩ := ib.tn
  have lx : xs.length = vs.length := by rw [ixs.length, List.length_map]
  have ly : ys.length = ss.length := by rw [iys.length, List.length_map]
  have o1 := ok.v1
  have o2 := ok.v6
  have o3 := ok.s2
  have o4 := ok.s8
  walk_at "rd"
  refine tup_yes ht (by show (2 : Int) ≤ 2; decide) (by show (2 : Int) ≤ 2; decide) ?_
  walk_at "rd"
  refine tup_yes ha (by omega) (by omega) ?_
  walk_at "rd"
  refine rd_lcT ?_
  walk_at "rd"
  refine rd_imT (as := vs) (enc := nD) (p := fun _ => true) (out := fun _ => .bool true) ha ixs (by omega) ?_ ?_
  · intro D x y H1 N hD hy k1 ix _ hN
    obtain rfl := ix.i
    have := ok.vv y hy
    walk_at "rd"
    refine from_yes (by omega) (by omega) ?_
    exact hN rfl _ _ (Same.refl _) (.bl true)
  · intro D H1 zs hD k1 hz iz
    rw [im_bls iz] at hz
    walk_at "rd"
    refine rd_all (SqL.of hz) ?_
    rw [all_true]
    walk_at "rd"
    have hb1 := k1 _ _ hb
    have ht1 := k1 _ _ ht
    have ha1 := k1 _ _ ha
    walk_at "rd"
    refine tup_yes hb1 (by omega) (by omega) ?_
    walk_at "rd"
    refine rd_lcT ?_
    walk_at "rd"
    refine rd_imT (as := ss) (enc := slD) (p := fun _ => true) (out := fun _ => .bool true) hb1 (iys.up (Tp.of k1)) (by omega) ?_ ?_
    · intro D x y H2 N hD hy k2 ix _ hN
      have ht2 := k2 _ _ ht1
      have ha2 := k2 _ _ ha1
      walk_at "rd"
      refine rd_lenT (SqT.of ha2) ?_
      walk_at "rd"
      refine ⟨xs.length, y, rfl, ix, by rw [lx]; exact ok.it y hy, ?_⟩
      exact hN rfl _ _ (Same.refl _) (.bl true)
    · intro D H2 zs hD k2 hz iz
      rw [im_bls iz] at hz
      walk_at "rd"
      refine rd_all (SqL.of hz) ?_
      rw [all_true]
      exact q H2 (k1.trans k2)
def Φ_is_write (K : PySem.W.Frag) (vd v : V) (H : Hp) (Q : VK) : Prop := ∃ (vs : List Nat) (ss : List Slt) (w : Wr), Im H vd (dkD vs ss) ∧ Im H v (wrD w) ∧ Wrok vs.length ss.length w ∧ vs.length ≤ 6 ∧ ss.length ≤ 8 ∧ Q (.bl true) H
theorem ok_is_write (T : Txt P K mg) {f : Addr} {fd : FuncData} (F : Fun K "is_write" "is_write" s_is_write f fd) : Keeps P w K mg base CX0 3 f fd ["disk", "value"] (sp2 (Φ_is_write K)) := by
  have c_is_from := cal (P := P) (w := w) (base := base) T.d_is_from fun F => ok_is_from T F
  have c_is_item := cal (P := P) (w := w) (base := base) T.d_is_item fun F => ok_is_item T F
  have c_is_tuple := cal (P := P) (w := w) (base := base) T.d_is_tuple fun F => ok_is_tuple T F
  refine keeps0_of F sc_is_write (fun vs H Q E h => ?_) (fun cdv A outer s H vs Q E hr h => ?_)
  · obtain ⟨_, _, rfl, _⟩ := h
    rfl
  obtain ⟨v_disk, v_value, rfl, h⟩ := h
  have hu := hr.hu
  refine ⟨_, (pss_cons (ps_if (PW.pt (pw_or (pt_not (pt_val (pe_cal c_is_tuple (hr.mono (by decide)) (by rfl) pass0 (pa_cons (pv 1) (pa_cons pe_int (pa_cons pe_int pa_nil)))))) (pw_or1 (pt_not (pt_val (pe_callB (isiX (K := K)) (by rfl) T.b_isinstance (by decide +kernel) (pa_cons (pe_ix (ixX (K := K)) (pv 1) pe_int (fun _ _ => rfl)) (pa_cons (pe_bltn (v := .ty "str") (by rfl) T.b_str (by decide +kernel) rfl) pa_nil)))))))) (pss_one (ps_ret pe_bl)) pss_nil)
      (pss_cons (ps_if (pt_cmpR (oEq (K := K) hr.u65) (pe_ix (ixX (K := K)) (pv 1) pe_int (fun _ _ => rfl)) pe_str (nomark _)) (pss_one (ps_ret (pe_and (pe_cal c_is_from (hr.mono (by decide)) (by rfl) pass0 (pa_cons (pe_ix (ixX (K := K)) (pv 1) pe_int (fun _ _ => rfl)) (pa_cons pe_int (pa_cons (pe_op oSub (pe_callB (call_lenX (K := K)) (by rfl) T.b_len (by decide +kernel) (pa_cons (pe_ix (ixX (K := K)) (pv 0) pe_int (fun _ _ => rfl)) pa_nil)) pe_int) pa_nil)))) (pe_one (pe_cal c_is_from (hr.mono (by decide)) (by rfl) pass0 (pa_cons (pe_ix (ixX (K := K)) (pv 1) pe_int (fun _ _ => rfl)) (pa_cons pe_int (pa_cons (pe_gk (by rfl) T.c_MOST_VALUE) pa_nil)))))))) pss_nil)
      (pss_one (ps_ret (pe_and (pe_cmpR (oEq (K := K) hr.u65) (pe_ix (ixX (K := K)) (pv 1) pe_int (fun _ _ => rfl)) pe_str (nomark _)) (pe_and (pe_cal c_is_from (hr.mono (by decide)) (by rfl) pass0 (pa_cons (pe_ix (ixX (K := K)) (pv 1) pe_int (fun _ _ => rfl)) (pa_cons pe_int (pa_cons (pe_op oSub (pe_callB (call_lenX (K := K)) (by rfl) T.b_len (by decide +kernel) (pa_cons (pe_ix (ixX (K := K)) (pv 0) pe_int (fun _ _ => rfl)) pa_nil)) pe_int) pa_nil)))) (pe_one (pe_cal c_is_item (hr.mono (by decide)) (by rfl) pass0 (pa_cons (pe_callB (call_lenX (K := K)) (by rfl) T.b_len (by decide +kernel) (pa_cons (pe_ix (ixX (K := K)) (pv 0) pe_int (fun _ _ => rfl)) pa_nil)) (pa_cons (pe_ix (ixX (K := K)) (pv 1) pe_int (fun _ _ => rfl)) pa_nil)))))))))), ?_⟩
  rw [show start ["disk", "value"] [v_disk, v_value] = [some v_disk, some v_value] from rfl]
  try dsimp only [cxOf, Cx.nox, Cx.wish]
  obtain ⟨vs, ss, w, im, iw, ok, o2, o4, q⟩ := h
  obtain ⟨t, a, b, rfl, ht, ia, ib⟩ := im.t2
  obtain ⟨ta, xs, rfl, ha, ixs⟩ := ia.tn
  obtain ⟨tb, ys, rfl, hb, iys⟩ := ib.tn
  have lx : xs.length = vs.length := by rw [ixs.length, List.length_map]
  have ly : ys.length = ss.length := by rw [iys.length, List.length_map]
  cases w with
  | va i v =>
    obtain ⟨u, x, y, z, rfl, hu, ix, iy, iz⟩ := iw.t3
    obtain rfl := ix.s
    obtain rfl := iy.i
    obtain rfl := iz.i
    obtain ⟨h1, h2⟩ := ok
    walk_at "rd"
    refine tup_yes hu (by show (3 : Int) ≤ 3; decide) (by show (3 : Int) ≤ 3; decide) ?_
    walk_at "rd"
    refine rd_yesI (decide_eq_true rfl) ?_
    walk_at "rd"
    refine rd_lenT (SqT.of ha) ?_
    walk_at "rd"
    refine from_yes (by omega) (by omega) ?_
    walk_at "rd"
    exact from_yes (by omega) (by omega) q
  | sl i x =>
    obtain ⟨u, x', y, z, rfl, hu, ix, iy, iz⟩ := iw.t3
    obtain rfl := ix.s
    obtain rfl := iy.i
    obtain ⟨h1, h2⟩ := ok
    walk_at "rd"
    refine tup_yes hu (by show (3 : Int) ≤ 3; decide) (by show (3 : Int) ≤ 3; decide) ?_
    walk_at "rd"
    refine rd_noI (by decide +kernel) ?_
    walk_at "rd"
    refine rd_yesI (decide_eq_true rfl) ?_
    walk_at "rd"
    refine rd_lenT (SqT.of hb) ?_
    walk_at "rd"
    refine from_yes (by omega) (by omega) ?_
    walk_at "rd"
    refine rd_lenT (SqT.of ha) ?_
    walk_at "rd"
    exact ⟨xs.length, x, rfl, iz, by rw [lx]; exact h2, q⟩
def Φ_need_disk (K : PySem.W.Frag) (v : V) (H : Hp) (Q : VK) : Prop := ∃ (vs : List Nat) (ss : List Slt), Im H v (dkD vs ss) ∧ Dok vs ss ∧ ∀ H', Same H H' → Q .non H'
theorem ok_need_disk (T : Txt P K mg) {f : Addr} {fd : FuncData} (F : Fun K "need_disk" "need_disk" s_need_disk f fd) : Keeps P w K mg base CX0 4 f fd ["disk"] (sp1 (Φ_need_disk K)) := by
  have c_is_a_disk := cal (P := P) (w := w) (base := base) T.d_is_a_disk fun F => ok_is_a_disk T F
  refine keeps0_of F sc_need_disk (fun vs H Q E h => ?_) (fun cdv A outer s H vs Q E hr h => ?_)
  · obtain ⟨_, rfl, _⟩ := h
    rfl
  obtain ⟨v_disk, rfl, h⟩ := h
  have hu := hr.hu
  refine ⟨_, (pss_one (ps_if (pt_not (pt_val (pe_cal c_is_a_disk (hr.mono (by decide)) (by rfl) pass0 (pa_cons (pv 0) pa_nil)))) (pss_one ps_never) pss_nil)), ?_⟩
  rw [show start ["disk"] [v_disk] = [some v_disk] from rfl]
  try dsimp only [cxOf, Cx.nox, Cx.wish]
  obtain ⟨vs, ss, im, ok, q⟩ := h
  walk_at "rd"
  refine ⟨vs, ss, im, ok, fun H1 k1 => ?_⟩
  walk_at "rd"
  exact q H1 k1
def Φ_written (K : PySem.W.Frag) (vd v : V) (H : Hp) (Q : VK) : Prop := ∃ (vs : List Nat) (ss : List Slt) (p : Addr) (xs : List V) (ws : List Wr), Im H vd (dkD vs ss) ∧ v = .ref p ∧ LT H p xs ∧ ImAll H xs (ws.map wrD) ∧ (∀ w ∈ ws, Wrok vs.length ss.length w) ∧
  ∀ (v : V) (H' : Hp), Same H H' → Im H' v (dkD (ws.foldl wrote (vs, ss)).1 (ws.foldl wrote (vs, ss)).2) → Q v H'
def Φ_puts_of (K : PySem.W.Frag) (va vg : V) (H : Hp) (Q : VK) : Prop := ∃ (a : Addr) (xs : List V) (ss : List Slt) (g : Nat), va = .ref a ∧ vg = .int g ∧ H a = some (.tup xs) ∧ ImAll H xs (ss.map slD) ∧ ss.length ≤ 1000 ∧
  ∀ (D : Addr) (H' : Hp) (ys : List V), H D = none → Same H H' → H' D = some (.lst ys) → ImAll H' ys ((ss.filter (isPut g)).map pairD) → Q (.ref D) H'
theorem non_im {H : Hp} {v : V} {x : It} (h : Im H v (slD (some x))) : decide (v = .non) = false := by
  cases x with
  | en g n => obtain ⟨t, a, b, c, rfl, _⟩ := h.t3; exact decide_eq_false fun e => nomatch e
  | pu g p v => obtain ⟨t, a, b, c, d, rfl, _⟩ := h.t4; exact decide_eq_false fun e => nomatch e
theorem ok_puts_of (T : Txt P K mg) {f : Addr} {fd : FuncData} (F : Fun K "puts_of" "puts_of" s_puts_of f fd) : Keeps P w K mg base CX0 1 f fd ["slots", "group"] (sp2 (Φ_puts_of K)) := by
  refine keeps0_of F sc_puts_of (fun vs H Q E h => ?_) (fun cdv A outer s H vs Q E hr h => ?_)
  · obtain ⟨_, _, rfl, _⟩ := h
    rfl
  obtain ⟨v_slots, v_group, rfl, h⟩ := h
  have hu := hr.hu
  refine ⟨_, (pss_one (ps_ret (pe_lc (own := [("item", 2)]) rfl sc_puts_of.nd (pi_any (K := K) (pv 0)) (blkOk_by (own := [("item", 2)]) (N := ["slots", "group", "item"]) (sc := defScope s_puts_of) (by decide +kernel)) (fun _ _ _ _ _ => pg_name (i := 2) sc_puts_of.nd rfl (by first | exact Or.inl rfl | exact Or.inr rfl)) (fun _ _ _ _ _ => pts_one (PW.pt (pw_and (pt_cmpR oIsNot (pv 2) pe_non (nomark _)) (pw_and (pt_cmpR (oEq (K := K) hr.u65) (pe_ix (ixX (K := K)) (pv 2) pe_int (fun _ _ => rfl)) pe_str (nomark _)) (pw_and1 (pt_cmpR (oEq (K := K) hr.u65) (pe_ix (ixX (K := K)) (pv 2) pe_int (fun _ _ => rfl)) (pv 1) (nomark _))))))) (fun _ _ _ _ _ => (pe_slice (sX (K := K)) (pv 2) (po_some pe_int) po_none))))), ?_⟩
  rw [show start ["slots", "group", "item"] [v_slots, v_group] = [some v_slots, some v_group, none] from rfl]
  try dsimp only [cxOf, Cx.nox, Cx.wish]
  obtain ⟨a, xs, ss, g, rfl, rfl, ha, ixs, hl, q⟩ := h
  walk_at "rd"
  refine rd_lcT ?_
  walk_at "rd"
  refine rd_imT (as := ss) (enc := slD) (p := isPut g) (out := pairD) ha ixs (by omega) ?_ ?_
  · intro D x y H1 N hD hy k1 ix h0 h1
    cases y with
    | none =>
      obtain rfl := ix.n
      walk_at "rd"
      refine rd_noI (by rfl) ?_
      walk_at "rd"
      exact h0 rfl _ (Same.refl _)
    | some y =>
      have nn := non_im ix
      cases y with
      | en g n =>
        obtain ⟨t, a, b, c, rfl, ht, ia, ib, ic⟩ := ix.t3
        obtain rfl := ia.s
        obtain rfl := ib.i
        obtain rfl := ic.i
        walk_at "rd"
        refine rd_yesI (by rw [nn]; rfl) ?_
        walk_at "rd"
        refine rd_noI (by decide +kernel) ?_
        walk_at "rd"
        exact h0 rfl _ (Same.refl _)
      | pu g2 p v =>
        obtain ⟨t, a, b, c, d, rfl, ht, ia, ib, ic, id⟩ := ix.t4
        obtain rfl := ia.s
        obtain rfl := ib.i
        obtain rfl := ic.i
        obtain rfl := id.i
        walk_at "rd"
        refine rd_yesI (by rw [nn]; rfl) ?_
        walk_at "rd"
        refine rd_yesI (decide_eq_true rfl) ?_
        walk_at "rd"
        refine rd_ite (fun hg => ?_) (fun hg => ?_)
        · walk_at "rd"
          refine rd_slT (SqT.of ht) (show ¬ (HT.sIx 4 0 (some 2) = 0 ∧ HT.sIx 4 4 none = 4) by decide) fun u hu => ?_
          have k := (Same.refl H1).new (o := .tup [.int p, .int v]) hu
          exact h1 (by have := of_decide_eq_true hg; exact decide_eq_true (by omega)) _ _ k (.mk2 upd_same (.int _) (.int _))
        · exact h0 (by have := of_decide_eq_false hg; exact decide_eq_false (by omega)) _ (Same.refl _)
  · intro D H' ys hD k hys iy
    exact q D H' ys hD k hys iy
def Φ_is_whole (K : PySem.W.Frag) (va vg vn : V) (H : Hp) (Q : VK) : Prop := ∃ (a : Addr) (xs : List V) (ss : List Slt) (g n : Nat), va = .ref a ∧ vg = .int g ∧ vn = .int n ∧ H a = some (.tup xs) ∧ ImAll H xs (ss.map slD) ∧ ss.length ≤ 1000 ∧
  ∀ H', Same H H' → Q (.bl (whole ss (some (.en g n)))) H'
theorem places_len (ss : List Slt) (g : Nat) : (places ss g).length = (ss.filter (isPut g)).length := List.length_map ..
theorem ok_is_whole (T : Txt P K mg) {f : Addr} {fd : FuncData} (F : Fun K "is_whole" "is_whole" s_is_whole f fd) : Keeps P w K mg base CX0 2 f fd ["slots", "group", "many"] (sp3 (Φ_is_whole K)) := by
  have c_puts_of := cal (P := P) (w := w) (base := base) T.d_puts_of fun F => ok_puts_of T F
  refine keeps0_of F sc_is_whole (fun vs H Q E h => ?_) (fun cdv A outer s H vs Q E hr h => ?_)
  · obtain ⟨_, _, _, rfl, _⟩ := h
    rfl
  obtain ⟨v_slots, v_group, v_many, rfl, h⟩ := h
  have hu := hr.hu
  refine ⟨_, (pss_cons (ps_set (i := 3) sc_is_whole.nd rfl (by first | exact Or.inl rfl | exact Or.inr rfl) (pe_cal c_puts_of (hr.mono (by decide)) (by rfl) pass0 (pa_cons (pv 0) (pa_cons (pv 1) pa_nil))))
      (pss_one (ps_ret (pe_and (pe_cmpR (oEq (K := K) hr.u65) (pe_callB (call_lenX (K := K)) (by rfl) T.b_len (by decide +kernel) (pa_cons (pv 3) pa_nil)) (pv 2) (nomark _)) (pe_one (pe_cmpR (oEq (K := K) hr.u65) (pe_callB (call_lenX (K := K)) (by rfl) T.b_len (by decide +kernel) (pa_cons (pe_dc (own := [("place", 4), ("value", 5)]) rfl sc_is_whole.nd (pi_any (K := K) (pv 3)) (blkOk_by (own := [("place", 4), ("value", 5)]) (N := ["slots", "group", "many", "puts", "place", "value"]) (sc := defScope s_is_whole) (by decide +kernel)) (fun _ _ _ _ _ => pg_seqX (K := K) (n := 2) rfl (pgs_cons (pg_name (i := 4) sc_is_whole.nd rfl (by first | exact Or.inl rfl | exact Or.inr rfl)) (pgs_cons (pg_name (i := 5) sc_is_whole.nd rfl (by first | exact Or.inl rfl | exact Or.inr rfl)) pgs_nil))) (fun _ _ _ _ _ => pts_nil) (fun _ _ _ _ _ => (pv 4)) (fun _ _ _ _ _ => pe_bl)) pa_nil)) (pv 2) (nomark _))))))), ?_⟩
  rw [show start ["slots", "group", "many", "puts", "place", "value"] [v_slots, v_group, v_many] = [some v_slots, some v_group, some v_many, none, none, none] from rfl]
  try dsimp only [cxOf, Cx.nox, Cx.wish]
  obtain ⟨a, xs, ss, g, n, rfl, rfl, rfl, ha, ixs, hl, q⟩ := h
  walk_at "rd"
  refine ⟨a, xs, ss, g, rfl, rfl, ha, ixs, hl, fun D H1 ys hD k1 hys iy => ?_⟩
  walk_at "rd"
  refine rd_lenL (SqL.of hys) ?_
  have ly : ys.length = (places ss g).length := by rw [iy.length, List.length_map, places_len]
  have ly2 : ys.length ≤ 1000 := by
    have := List.length_filter_le (isPut g) ss
    rw [ly, places_len]
    omega
  walk_at "rd"
  have hq : ∀ H', Same H H' → Q (.bl (decide ((places ss g).length = n) && decide ((dist (places ss g)).length = n))) H' := q
  have e1 : decide ((ys.length : Int) = (n : Int)) = decide ((places ss g).length = n) := decide_eq_decide.mpr (by omega)
  rw [e1]
  cases hA : decide ((places ss g).length = n) with
  | false =>
    rw [hA, Bool.false_and] at hq
    exact hq H1 k1
  | true =>
    rw [hA, Bool.true_and] at hq
    walk_at "rd"
    refine rd_dcL ?_
    walk_at "rd"
    refine rd_ddL (xs := ys) (SqL.of hys) (fun D2 i H' => Same H1 H' ∧ ∃ kvs, H' D2 = some (.dK kvs) ∧ kvs.map (·.1) = (PyProof.Rows.firstMet (fun i => (places ss g).getD i 0) i).map Sum.inl)
      (fun D2 hD2 => ⟨(Same.refl H1).new (o := .dK []) hD2, [], upd_same, rfl⟩) (fun D2 i H' hD2 _ h => SqL.of (h.1 _ _ hys)) (fun D2 i x H' hD2 hx hP => ?_) (fun D2 H' hD2 hP => ?_)
    · obtain ⟨k2, kvs, hk, ek⟩ := hP
      obtain ⟨d, hd, ix⟩ := iy.getV hx
      rw [List.getElem?_map] at hd
      obtain ⟨y, hy, rfl⟩ := Option.map_eq_some_iff.mp hd
      have pl : (places ss g)[i]? = some (place y) := by
        unfold places
        rw [List.getElem?_map, hy]
        rfl
      have hput := (List.mem_filter.mp (List.mem_of_getElem? hy)).2
      have ez := dist_step _ _ pl
      have ib : i < ys.length := (List.getElem?_eq_some_iff.mp hx).1
      have lk : kvs.length ≤ i := by
        rw [keys_len ek]
        exact firstMet_length_le _ _
      match y, hput, ix, pl, ez with
      | some (.pu g2 p v), _, ix, pl, ez =>
        obtain ⟨t, a2, b2, rfl, ht, ia, ib2⟩ := (ix.up (Tp.of k2)).t2
        obtain rfl := ia.i
        obtain rfl := ib2.i
        refine rd_dcT1 ?_
        refine rd_gtup (SqT.of ht) rfl ?_
        walk_at "rd"
        refine ⟨kvs, .inl (p : Int), rfl, hk, szLt (by omega), k2.put hD2, _, upd_same, ?_⟩
        rw [ez]
        exact keys_put ek
    · obtain ⟨k2, kvs, hk, ek⟩ := hP
      rw [ly] at ek
      walk_at "rd"
      refine rd_lenD hk ?_
      walk_at "rd"
      rw [keys_len ek, show decide (((firstMet (fun i => (places ss g).getD i 0) (places ss g).length).length : Int) = (n : Int)) = decide ((dist (places ss g)).length = n) from decide_eq_decide.mpr (by unfold dist; omega)]
      exact hq H' (k1.trans k2)
def Φ_group_put (K : PySem.W.Frag) (va : V) (H : Hp) (Q : VK) : Prop := ∃ (a : Addr) (xs : List V) (ss : List Slt), va = .ref a ∧ H a = some (.tup xs) ∧ ImAll H xs (ss.map slD) ∧ ss.length ≤ 1000 ∧
  ∀ H', Same H H' → Q (optV (mn (groups ss))) H'
def grpD : Slt → PyData
  | some (.en g _) => .int (g : Int)
  | _ => .none
theorem grps_im {H : Hp} : ∀ {as : List Slt} {ys : List V}, (∀ x ∈ as, isEnd x = true) → ImAll H ys (as.map grpD) → ys = (as.map grp).map V.int
  | [], _, _, h => by cases h; rfl
  | a :: as, _, k, h => by
    cases h with
    | cons h1 h2 =>
      rw [grps_im (fun x hx => k x (List.mem_cons_of_mem _ hx)) h2]
      match a, k a List.mem_cons_self, h1 with
      | some (.en g n), _, h1 => rw [h1.i]; rfl
theorem ok_group_put (T : Txt P K mg) {f : Addr} {fd : FuncData} (F : Fun K "group_put" "group_put" s_group_put f fd) : Keeps P w K mg base CX0 3 f fd ["slots"] (sp1 (Φ_group_put K)) := by
  have c_is_whole := cal (P := P) (w := w) (base := base) T.d_is_whole fun F => ok_is_whole T F
  refine keeps0_of F sc_group_put (fun vs H Q E h => ?_) (fun cdv A outer s H vs Q E hr h => ?_)
  · obtain ⟨_, rfl, _⟩ := h
    rfl
  obtain ⟨v_slots, rfl, h⟩ := h
  have hu := hr.hu
  refine ⟨_, (pss_cons (ps_setLc (i := 1) (own := [("item", 3)]) rfl sc_group_put.nd rfl rfl (sw_true rfl rfl rfl (by decide +kernel)) (pi_any (K := K) (pv 0)) (blkOk_by (own := [("item", 3)]) (N := ["slots", "ends", "groups", "item", "word", "group", "many"]) (sc := defScope s_group_put) (by decide +kernel)) (fun _ _ _ _ _ => pg_name (i := 3) sc_group_put.nd rfl (by first | exact Or.inl rfl | exact Or.inr rfl)) (fun _ _ _ _ _ => pts_one (PW.pt (pw_and (pt_cmpR oIsNot (pv 3) pe_non (nomark _)) (pw_and1 (pt_cmpR (oEq (K := K) hr.u65) (pe_ix (ixX (K := K)) (pv 3) pe_int (fun _ _ => rfl)) pe_str (nomark _)))))) (fun _ _ _ _ _ => (pv 3)))
      (pss_cons (ps_setLc (i := 2) (own := [("word", 4), ("group", 5), ("many", 6)]) rfl sc_group_put.nd rfl rfl (sw_true rfl rfl rfl (by decide +kernel)) (pi_any (K := K) (pv 1)) (blkOk_by (own := [("word", 4), ("group", 5), ("many", 6)]) (N := ["slots", "ends", "groups", "item", "word", "group", "many"]) (sc := defScope s_group_put) (by decide +kernel)) (fun _ _ _ _ _ => pg_seqX (K := K) (n := 3) rfl (pgs_cons (pg_name (i := 4) sc_group_put.nd rfl (by first | exact Or.inl rfl | exact Or.inr rfl)) (pgs_cons (pg_name (i := 5) sc_group_put.nd rfl (by first | exact Or.inl rfl | exact Or.inr rfl)) (pgs_cons (pg_name (i := 6) sc_group_put.nd rfl (by first | exact Or.inl rfl | exact Or.inr rfl)) pgs_nil)))) (fun _ _ _ _ _ => pts_one (pt_val (pe_cal c_is_whole (hr.mono (by decide)) (by rfl) pass0 (pa_cons (pv 0) (pa_cons (pv 5) (pa_cons (pv 6) pa_nil)))))) (fun _ _ _ _ _ => (pv 5)))
      (pss_one (ps_ret (pe_ifExp (pt_cmpR (oNe (K := K) hr.u65) (pv 2) (pe_lst pa_nil) (nomark _)) (pe_callB (cr_min rfl) (by rfl) T.b_min (by decide +kernel) (pa_cons (pv 2) pa_nil)) pe_non))))), ?_⟩
  rw [show start ["slots", "ends", "groups", "item", "word", "group", "many"] [v_slots] = [some v_slots, none, none, none, none, none, none] from rfl]
  try dsimp only [cxOf, Cx.nox, Cx.wish]
  obtain ⟨a, xs, ss, rfl, ha, ixs, hl, q⟩ := h
  walk_at "rd"
  refine rd_lcT ?_
  walk_at "rd"
  refine rd_imT (as := ss) (enc := slD) (p := isEnd) (out := slD) ha ixs (by omega) ?_ ?_
  · intro D x y H1 N hD hy k1 ix h0 h1
    cases y with
    | none =>
      obtain rfl := ix.n
      walk_at "rd"
      refine rd_noI (by rfl) ?_
      walk_at "rd"
      exact h0 rfl _ (Same.refl _)
    | some y =>
      have nn := non_im ix
      cases y with
      | en g n =>
        obtain ⟨t, a, b, c, rfl, ht, ia, ib, ic⟩ := ix.t3
        obtain rfl := ia.s
        walk_at "rd"
        refine rd_yesI (by rw [nn]; rfl) ?_
        walk_at "rd"
        refine rd_yesI (decide_eq_true rfl) ?_
        walk_at "rd"
        exact h1 rfl _ _ (Same.refl _) ix
      | pu g2 p v =>
        obtain ⟨t, a, b, c, d, rfl, ht, ia, ib, ic, id⟩ := ix.t4
        obtain rfl := ia.s
        walk_at "rd"
        refine rd_yesI (by rw [nn]; rfl) ?_
        walk_at "rd"
        refine rd_noI (by decide +kernel) ?_
        exact h0 rfl _ (Same.refl _)
  intro D H1 ys hD k1 hys iy
  have ha1 := k1 _ _ ha
  have ix1 := ixs.up (Tp.of k1)
  have lf := List.length_filter_le isEnd ss
  walk_at "rd"
  refine rd_lcL ?_
  walk_at "rd"
  refine rd_imL (as := ss.filter isEnd) (enc := slD) (p := whole ss) (out := grpD) hys iy (by omega) ?_ ?_
  · intro D2 x y H2 N hD2 hy k2 ix h0 h1
    match y, (List.mem_filter.mp hy).2, ix, h0, h1 with
    | some (.en g n), _, ix, h0, h1 =>
      obtain ⟨t, a, b, c, rfl, ht, ia, ib, ic⟩ := ix.t3
      obtain rfl := ia.s
      obtain rfl := ib.i
      obtain rfl := ic.i
      refine rd_lcT1 ?_
      refine rd_gtup (SqT.of ht) rfl ?_
      walk_at "rd"
      refine ⟨_, xs, ss, g, n, rfl, rfl, rfl, k2 _ _ ha1, ix1.up (Tp.of k2), hl, fun H3 k3 => ?_⟩
      walk_at "rd"
      refine rd_ite (fun hw => ?_) (fun hw => ?_)
      · walk_at "rd"
        exact h1 hw _ _ k3 (.int _)
      · exact h0 hw _ k3
  intro D2 H2 zs hD2 k2 hzs iz
  have ez := grps_im (fun x hx => (List.mem_filter.mp (List.mem_filter.mp hx).1).2) iz
  have k12 := k1.trans k2
  change zs = (groups ss).map V.int at ez
  walk_at "rd"
  intro e he
  have k3 := k12.new (o := .lst []) he
  have hz3 := ((Same.refl H2).new (o := .lst []) he) _ _ hzs
  rw [ez] at hz3
  refine rd_neNil (SqL.of hz3) (SqL.of upd_same) ?_
  walk_at "rd"
  cases eg : mn (groups ss) with
  | none =>
    rw [mn_none.mp eg]
    rw [eg] at q
    walk_at "rd"
    exact q _ k3
  | some m =>
    rw [eg] at q
    have ne : groups ss ≠ [] := fun e => by rw [mn_none.mpr e] at eg; cases eg
    refine rd_yesI (by cases e : groups ss with | nil => exact absurd e ne | cons => rfl) ?_
    walk_at "rd"
    refine ⟨_, groups ss, rfl, SqL.of hz3, List.length_pos_iff.mpr ne, fun m2 h1 h2 => ?_⟩
    have := (mn_of h1 h2).symm.trans eg
    cases this
    exact q _ k3
def Φ_with_changes (K : PySem.W.Frag) (va vc : V) (H : Hp) (Q : VK) : Prop := ∃ (a c : Addr) (xs ys : List V) (vs : List Nat) (ps : List Slt), va = .ref a ∧ vc = .ref c ∧ H a = some (.tup xs) ∧ ImAll H xs (vs.map nD) ∧ H c = some (.lst ys) ∧ ImAll H ys (ps.map pairD) ∧ (∀ x ∈ ps, ∃ g p v, x = some (.pu g p v) ∧ p < vs.length) ∧
  ∀ (v : V) (H' : Hp), Same H H' → Im H' v (.tuple ((putAll vs ps).map nD)) → Q v H'
theorem putAll_snoc : ∀ (ps : List Slt) (vs : List Nat) (g p v : Nat), putAll vs (ps ++ [some (.pu g p v)]) = (putAll vs ps).set p v
  | [], _, _, _, _ => rfl
  | none :: ps, vs, g, p, v => putAll_snoc ps vs g p v
  | some (.en _ _) :: ps, vs, g, p, v => putAll_snoc ps vs g p v
  | some (.pu _ p2 v2) :: ps, vs, g, p, v => putAll_snoc ps (vs.set p2 v2) g p v
theorem ok_with_changes (T : Txt P K mg) {f : Addr} {fd : FuncData} (F : Fun K "with_changes" "with_changes" s_with_changes f fd) : Keeps P w K mg base CX0 1 f fd ["values", "changes"] (sp2 (Φ_with_changes K)) := by
  refine keeps0_of F sc_with_changes (fun vs H Q E h => ?_) (fun cdv A outer s H vs Q E hr h => ?_)
  · obtain ⟨_, _, rfl, _⟩ := h
    rfl
  obtain ⟨v_values, v_changes, rfl, h⟩ := h
  have hu := hr.hu
  refine ⟨_, (pss_cons (ps_set (i := 2) sc_with_changes.nd rfl (by first | exact Or.inl rfl | exact Or.inr rfl) (pe_callTy (callListX (K := K)) (by rfl) T.b_list (by decide +kernel) (pa_cons (pv 0) pa_nil)))
      (pss_cons (ps_for PassesOwn.never rfl (pi_any (K := K) (pv 1)) (pg_seqX (K := K) (n := 2) rfl (pgs_cons (pg_name (i := 3) sc_with_changes.nd rfl (by first | exact Or.inl rfl | exact Or.inr rfl)) (pgs_cons (pg_name (i := 4) sc_with_changes.nd rfl (by first | exact Or.inl rfl | exact Or.inr rfl)) pgs_nil))) (pss_one (ps_asg (pv 4) (pg_sub (pv 2) (pv 3) set_list))))
      (pss_one (ps_ret (pe_callTy (callTupX (K := K)) (by rfl) T.b_tuple (by decide +kernel) (pa_cons (pv 2) pa_nil)))))), ?_⟩
  rw [show start ["values", "changes", "found", "place", "value"] [v_values, v_changes] = [some v_values, some v_changes, none, none, none] from rfl]
  try dsimp only [cxOf, Cx.nox, Cx.wish]
  obtain ⟨a, c, xs, ys, vs, ps, rfl, rfl, ha, ixs, hc, iys, hps, q⟩ := h
  walk_at "rd"
  refine rd_lstT (SqT.of ha) fun l hl => ?_
  have k1 := (Same.refl H).new (o := .lst xs) hl
  have ly : ys.length = ps.length := by rw [iys.length, List.length_map]
  walk_at "rd"
  refine rd_forL ?_
  walk_at "rd"
  refine rd_itL (xs := ys) (SqL.of (k1 _ _ hc)) (fun i σ H' => Same H H' ∧ (∃ xs', H' l = some (.lst xs') ∧ ImAll H' xs' ((putAll vs (ps.take i)).map nD)) ∧ ∃ x y, σ = [some (.ref a), some (.ref c), some (.ref l), x, y]) ⟨k1, ⟨xs, upd_same, ixs.up (Tp.of k1)⟩, _, _, rfl⟩ ?_ ?_ ?_
  · rintro i σ H' _ ⟨k, _⟩
    exact SqL.of (k _ _ hc)
  · rintro i x σ H1 hx ⟨k, ⟨xs1, e1, ia1⟩, x1, x2, rfl⟩
    obtain ⟨d, hd, ix⟩ := iys.getV hx
    rw [List.getElem?_map] at hd
    obtain ⟨y, hy, rfl⟩ := Option.map_eq_some_iff.mp hd
    have grow : ps.take (i + 1) = ps.take i ++ [y] := by rw [List.take_add_one, hy]; rfl
    obtain ⟨g, p, v, rfl, hp⟩ := hps y (List.mem_of_getElem? hy)
    obtain ⟨t, a2, b2, rfl, ht, ia, ib⟩ := (ix.up (Tp.of k)).t2
    obtain rfl := ia.i
    obtain rfl := ib.i
    have l1 := ia1.length
    rw [List.length_map, putAll_len] at l1
    refine rd_gtup (SqT.of ht) rfl ?_
    walk_at "rd"
    refine rd_setL e1 (ixN_nat (by omega)) ?_
    walk_at "rd"
    refine ⟨k.put hl, ⟨_, upd_same, ?_⟩, _, _, rfl⟩
    rw [grow, putAll_snoc, List.map_set]
    exact (ia1.set p (.int v)).up ((Tp.refl H1).lst e1)
  · rintro σ H1 ⟨k, ⟨xs1, e1, ia1⟩, x1, x2, rfl⟩
    rw [ly, List.take_length] at ia1
    walk_at "rd"
    refine rd_tupL (SqL.of e1) fun r hr => ?_
    have k3 := (Same.refl H1).new (o := .tup xs1) hr
    exact q _ _ (k.trans k3) (.tup upd_same (ia1.up (Tp.of k3)))
def Φ_put_back (K : PySem.W.Frag) (v : V) (H : Hp) (Q : VK) : Prop := ∃ (vs : List Nat) (ss : List Slt), Im H v (dkD vs ss) ∧ Dok vs ss ∧ ∀ (u : V) (H' : Hp), Same H H' → Im H' u (dkD (back vs ss) (List.replicate ss.length none)) → Q u H'
theorem puts_good {vs : List Nat} {ss : List Slt} (h : Dok vs ss) (g : Nat) : ∀ x ∈ ss.filter (isPut g), ∃ g p v, x = some (.pu g p v) ∧ p < vs.length := fun x hx => by
  obtain ⟨h1, h2⟩ := List.mem_filter.mp hx
  match x, h.it x h1, h2 with
  | some (.pu g p v), k, _ => exact ⟨g, p, v, rfl, k.2.1⟩
theorem grp_nat {ss : List Slt} {m : Int} (h : m ∈ groups ss) : ∃ g : Nat, m = (g : Int) := by
  obtain ⟨x, hx, rfl⟩ := List.mem_map.mp h
  match x with
  | none => exact ⟨0, rfl⟩
  | some (.en g n) => exact ⟨g, rfl⟩
  | some (.pu _ _ _) => exact ⟨0, rfl⟩
theorem im_nons {H : Hp} : ∀ n : Nat, ImAll H (List.replicate n V.non) ((List.replicate n (none : Slt)).map slD)
  | 0 => .nil
  | n + 1 => .cons .non (im_nons n)
theorem flat_non (n : Nat) : (List.replicate n [V.non]).flatten = List.replicate n V.non := by
  induction n with
  | zero => rfl
  | succ n ih => rw [List.replicate_succ, List.flatten_cons, ih, List.replicate_succ]; rfl
theorem ok_put_back (T : Txt P K mg) {f : Addr} {fd : FuncData} (F : Fun K "put_back" "put_back" s_put_back f fd) : Keeps P w K mg base CX0 4 f fd ["disk"] (sp1 (Φ_put_back K)) := by
  have c_group_put := cal (P := P) (w := w) (base := base) T.d_group_put fun F => ok_group_put T F
  have c_puts_of := cal (P := P) (w := w) (base := base) T.d_puts_of fun F => ok_puts_of T F
  have c_with_changes := cal (P := P) (w := w) (base := base) T.d_with_changes fun F => ok_with_changes T F
  refine keeps0_of F sc_put_back (fun vs H Q E h => ?_) (fun cdv A outer s H vs Q E hr h => ?_)
  · obtain ⟨_, rfl, _⟩ := h
    rfl
  obtain ⟨v_disk, rfl, h⟩ := h
  have hu := hr.hu
  refine ⟨_, (pss_cons (ps_set (i := 1) sc_put_back.nd rfl (by first | exact Or.inl rfl | exact Or.inr rfl) (pe_cal c_group_put (hr.mono (by decide)) (by rfl) pass0 (pa_cons (pe_ix (ixX (K := K)) (pv 0) pe_int (fun _ _ => rfl)) pa_nil)))
      (pss_cons (ps_set (i := 2) sc_put_back.nd rfl (by first | exact Or.inl rfl | exact Or.inr rfl) (pe_ifExp (pt_cmpR oIs (pv 1) pe_non (nomark _)) (pe_lst pa_nil) (pe_cal c_puts_of (hr.mono (by decide)) (by rfl) pass0 (pa_cons (pe_ix (ixX (K := K)) (pv 0) pe_int (fun _ _ => rfl)) (pa_cons (pv 1) pa_nil)))))
      (pss_one (ps_ret (pe_tup (pa_cons (pe_cal c_with_changes (hr.mono (by decide)) (by rfl) pass0 (pa_cons (pe_ix (ixX (K := K)) (pv 0) pe_int (fun _ _ => rfl)) (pa_cons (pv 2) pa_nil))) (pa_cons (pe_op (oMul (K := K)) (pe_tup (pa_cons pe_non pa_nil)) (pe_callB (call_lenX (K := K)) (by rfl) T.b_len (by decide +kernel) (pa_cons (pe_ix (ixX (K := K)) (pv 0) pe_int (fun _ _ => rfl)) pa_nil))) pa_nil))))))), ?_⟩
  rw [show start ["disk", "group", "puts"] [v_disk] = [some v_disk, none, none] from rfl]
  try dsimp only [cxOf, Cx.nox, Cx.wish]
  obtain ⟨vs, ss, im, ok, q⟩ := h
  obtain ⟨t, a, b, rfl, ht, ia, ib⟩ := im.t2
  obtain ⟨ta, xs, rfl, ha, ixs⟩ := ia.tn
  obtain ⟨tb, ys, rfl, hb, iys⟩ := ib.tn
  have o3 := ok.s2
  have o4 := ok.s8
  have ly : ys.length = ss.length := by rw [iys.length, List.length_map]
  have fin : ∀ (g : V) (p : Addr) (zs : List V) (H1 : Hp) (ps : List Slt), Same H H1 → H1 p = some (.lst zs) → ImAll H1 zs (ps.map pairD) → (∀ x ∈ ps, ∃ g p v, x = some (.pu g p v) ∧ p < vs.length) → putAll vs ps = back vs ss →
      tRet (tTup (tCons (tCall (sp2 (Φ_with_changes K)) [] E0 (tCons (tOp (xIx K) (tVar 0) (tC (V.int 0))) (tCons (tVar 2) tNil)))
            (tCons (tOp (xMul K) (tTup (tCons (tC V.non) tNil)) (tCB (xLen K) (tCons (tOp (xIx K) (tVar 0) (tC (V.int 1))) tNil))) tNil)))
          { nx := fun x H' => Q V.non H', rt := Q } [some (V.ref t), some g, some (V.ref p)] H1 := by
    intro g p zs H1 ps k1 hp iz hps e
    have ht1 := k1 _ _ ht
    walk_at "rd"
    refine ⟨ta, p, xs, zs, vs, ps, rfl, rfl, k1 _ _ ha, ixs.up (Tp.of k1), hp, iz, hps, fun u H2 k2 iu => ?_⟩
    walk_at "rd"
    intro r hr
    have ht2 := ((Same.refl H2).new (o := .tup [.non]) hr) _ _ (k2 _ _ ht1)
    have hb2 := ((Same.refl H2).new (o := .tup [.non]) hr) _ _ (k2 _ _ (k1 _ _ hb))
    walk_at "rd"
    refine rd_lenT (SqT.of hb2) ?_
    refine rd_repT (SqT.of upd_same) (fun e => nomatch e) (by omega) (by omega) (by show 1 ≤ 1000; omega) fun l hl => ?_
    walk_at "rd"
    intro r2 hr2
    have k3 := ((Same.refl H2).new (o := .tup [.non]) hr).new (o := .tup (List.replicate ((ys.length : Nat) : Int).toNat [V.non]).flatten) hl
    have k4 := k3.new (o := .tup [u, .ref l]) hr2
    refine q _ _ ((k1.trans k2).trans k4) ?_
    rw [← e]
    refine .mk2 upd_same (iu.up (Tp.of k4)) (.tup (((Same.refl _).new (o := .tup [u, .ref l]) hr2) _ _ upd_same) ?_)
    rw [flat_non, Int.toNat_natCast, ly]
    exact im_nons _
  walk_at "rd"
  refine ⟨tb, ys, ss, rfl, hb, iys, by omega, fun H1 k1 => ?_⟩
  walk_at "rd"
  have hb1 := k1 _ _ hb
  have ht1 := k1 _ _ ht
  cases eg : mn (groups ss) with
  | none =>
    refine rd_yesI (decide_eq_true rfl) ?_
    walk_at "rd"
    intro p hp
    refine rd_gname rfl ?_
    refine fin _ p [] _ [] (k1.new hp) upd_same .nil (fun _ h => nomatch h) ?_
    unfold back
    rw [eg]
    rfl
  | some m =>
    obtain ⟨g, rfl⟩ := grp_nat (mn_spec eg).1
    refine rd_noI (decide_eq_false fun e => nomatch e) ?_
    walk_at "rd"
    refine ⟨tb, ys, ss, g, rfl, rfl, hb1, iys.up (Tp.of k1), by omega, fun D H2 zs hD k2 hz iz => ?_⟩
    refine rd_gname rfl ?_
    refine fin _ D zs _ _ (k1.trans k2) hz iz (puts_good ok g) ?_
    unfold back
    rw [eg]
    rfl
def Φ_recovered (K : PySem.W.Frag) (v : V) (H : Hp) (Q : VK) : Prop := ∃ (vs : List Nat) (ss : List Slt), Im H v (dkD vs ss) ∧ Dok vs ss ∧ ∀ (u : V) (H' : Hp), Same H H' → Im H' u (dkD (back vs ss) (List.replicate ss.length none)) → Q u H'
theorem ok_recovered (T : Txt P K mg) {f : Addr} {fd : FuncData} (F : Fun K "recovered" "recovered" s_recovered f fd) : Keeps P w K mg base CX0 5 f fd ["disk"] (sp1 (Φ_recovered K)) := by
  have c_need_disk := cal (P := P) (w := w) (base := base) T.d_need_disk fun F => ok_need_disk T F
  have c_put_back := cal (P := P) (w := w) (base := base) T.d_put_back fun F => ok_put_back T F
  refine keeps0_of F sc_recovered (fun vs H Q E h => ?_) (fun cdv A outer s H vs Q E hr h => ?_)
  · obtain ⟨_, rfl, _⟩ := h
    rfl
  obtain ⟨v_disk, rfl, h⟩ := h
  have hu := hr.hu
  refine ⟨_, (pss_cons (ps_expr (pe_cal c_need_disk (hr.mono (by decide)) (by rfl) pass0 (pa_cons (pv 0) pa_nil)))
      (pss_one (ps_ret (pe_cal c_put_back (hr.mono (by decide)) (by rfl) pass0 (pa_cons (pv 0) pa_nil))))), ?_⟩
  rw [show start ["disk"] [v_disk] = [some v_disk] from rfl]
  try dsimp only [cxOf, Cx.nox, Cx.wish]
  obtain ⟨vs, ss, im, ok, q⟩ := h
  walk_at "rd"
  refine ⟨vs, ss, im, ok, fun H1 k1 => ?_⟩
  walk_at "rd"
  exact ⟨vs, ss, im.up (Tp.of k1), ok, fun u H2 k2 iu => q u H2 (k1.trans k2) iu⟩

/-! ### stages, plans, changes -/
def stD (ws : List Wr) : PyData := .tuple (ws.map wrD)
def planD (p : List (List Wr)) : PyData := .tuple (p.map stD)
def goal : Wr → List Key
  | .va i _ => [.inr "value", .inl i]
  | .sl i _ => [.inr "slot", .inl i]
structure Sok (m k : Nat) (ws : List Wr) : Prop where
  l1 : 1 ≤ ws.length
  l8 : ws.length ≤ 8
  ok : ∀ w ∈ ws, Wrok m k w
  nd : (ws.map goal).Nodup
structure Pok (m k : Nat) (p : List (List Wr)) : Prop where
  l1 : 1 ≤ p.length
  l8 : p.length ≤ 8
  ok : ∀ s ∈ p, Sok m k s
theorem putK_new {κ : Type} [DecidableEq κ] {es : List (κ × V)} {k : κ} {v : V} (h : k ∉ es.map (·.1)) : (putK es k v).map (·.1) = es.map (·.1) ++ [k] := by
  unfold putK
  rw [if_neg]
  · rw [List.map_append]; rfl
  · intro q
    obtain ⟨e, he, q⟩ := List.any_eq_true.mp q
    exact h (by rw [← of_decide_eq_true q]; exact List.mem_map_of_mem he)
/-- write[:2] -/
theorem wr_cut {K : PySem.W.Frag} {H : Hp} {v : V} {x : Wr} (h : Im H v (wrD x)) {Q : VK} (q : ∀ (u : Addr) (H' : Hp), Same H H' → H' u = some (.tup ((goal x).map kV)) → Q (.ref u) H') : xSl K v none (some 2) H Q := by
  cases x with
  | va i n =>
    obtain ⟨t, a, b, c, rfl, ht, ia, ib, ic⟩ := h.t3
    obtain rfl := ia.s
    obtain rfl := ib.i
    refine rd_slT (SqT.of ht) (show ¬ (HT.sIx 3 0 none = 0 ∧ HT.sIx 3 3 (some 2) = 3) by decide) fun u hu => ?_
    exact q u _ ((Same.refl H).new hu) upd_same
  | sl i n =>
    obtain ⟨t, a, b, c, rfl, ht, ia, ib, ic⟩ := h.t3
    obtain rfl := ia.s
    obtain rfl := ib.i
    refine rd_slT (SqT.of ht) (show ¬ (HT.sIx 3 0 none = 0 ∧ HT.sIx 3 3 (some 2) = 3) by decide) fun u hu => ?_
    exact q u _ ((Same.refl H).new hu) upd_same
def Φ_is_stage (K : PySem.W.Frag) (vd v : V) (H : Hp) (Q : VK) : Prop := ∃ (vs : List Nat) (ss : List Slt) (ws : List Wr), Im H vd (dkD vs ss) ∧ Im H v (stD ws) ∧ Sok vs.length ss.length ws ∧ vs.length ≤ 6 ∧ ss.length ≤ 8 ∧ ∀ H', Same H H' → Q (.bl true) H'
theorem ok_is_stage (T : Txt P K mg) {f : Addr} {fd : FuncData} (F : Fun K "is_stage" "is_stage" s_is_stage f fd) : Keeps P w K mg base CX0 4 f fd ["disk", "value"] (sp2 (Φ_is_stage K)) := by
  have c_is_tuple := cal (P := P) (w := w) (base := base) T.d_is_tuple fun F => ok_is_tuple T F
  have c_is_write := cal (P := P) (w := w) (base := base) T.d_is_write fun F => ok_is_write T F
  refine keeps0_of F sc_is_stage (fun vs H Q E h => ?_) (fun cdv A outer s H vs Q E hr h => ?_)
  · obtain ⟨_, _, rfl, _⟩ := h
    rfl
  obtain ⟨v_disk, v_value, rfl, h⟩ := h
  have hu := hr.hu
  refine ⟨_, (pss_cons (ps_if (PW.pt (pw_or (pt_not (pt_val (pe_cal c_is_tuple (hr.mono (by decide)) (by rfl) pass0 (pa_cons (pv 1) (pa_cons pe_int (pa_cons (pe_gk (by rfl) T.c_MOST_WRITES) pa_nil)))))) (pw_or1 (pt_not (pt_val (pe_callB (allX (K := K) rfl) (by rfl) T.b_all (by decide +kernel) (pa_cons (pe_lc (own := [("write", 2)]) rfl sc_is_stage.nd (pi_any (K := K) (pv 1)) (blkOk_by (own := [("write", 2)]) (N := ["disk", "value", "write"]) (sc := defScope s_is_stage) (by decide +kernel)) (fun _ _ _ _ _ => pg_name (i := 2) sc_is_stage.nd rfl (by first | exact Or.inl rfl | exact Or.inr rfl)) (fun _ _ _ _ _ => pts_nil) (fun _ _ _ _ _ => (pe_cal c_is_write (hr.mono (by decide)) (by rfl) pass0 (pa_cons (pv 0) (pa_cons (pv 2) pa_nil))))) pa_nil))))))) (pss_one (ps_ret pe_bl)) pss_nil)
      (pss_one (ps_ret (pe_cmpR (oEq (K := K) hr.u65) (pe_callB call_len_dT (by rfl) T.b_len (by decide +kernel) (pa_cons (pe_dcT (own := [("write", 2)]) rfl hr.hu sc_is_stage.nd (pi_any (K := K) (pv 1)) (blkOk_by (own := [("write", 2)]) (N := ["disk", "value", "write"]) (sc := defScope s_is_stage) (by decide +kernel)) (fun _ _ _ _ _ => pg_name (i := 2) sc_is_stage.nd rfl (by first | exact Or.inl rfl | exact Or.inr rfl)) (fun _ _ _ _ _ => pts_nil) (fun _ _ _ _ _ => (pe_slice (sX (K := K)) (pv 2) po_none (po_some pe_int))) (fun _ _ _ _ _ => pe_bl)) pa_nil)) (pe_callB (call_lenX (K := K)) (by rfl) T.b_len (by decide +kernel) (pa_cons (pv 1) pa_nil)) (nomark _))))), ?_⟩
  rw [show start ["disk", "value", "write"] [v_disk, v_value] = [some v_disk, some v_value, none] from rfl]
  try dsimp only [cxOf, Cx.nox, Cx.wish]
  obtain ⟨vs, ss, ws, im, iw, ok, o2, o4, q⟩ := h
  obtain ⟨t, xs, rfl, ht, ixs⟩ := iw.tn
  have lx : xs.length = ws.length := by rw [ixs.length, List.length_map]
  have l1 := ok.l1
  have l8 := ok.l8
  walk_at "rd"
  refine tup_yes ht (by omega) (by omega) ?_
  walk_at "rd"
  refine rd_lcT ?_
  walk_at "rd"
  refine rd_imT (as := ws) (enc := wrD) (p := fun _ => true) (out := fun _ => .bool true) ht ixs (by omega) ?_ ?_
  · intro D x y H1 N hD hy k1 ix _ hN
    walk_at "rd"
    refine ⟨vs, ss, y, im.up (Tp.of k1), ix, ok.ok y hy, o2, o4, ?_⟩
    exact hN rfl _ _ (Same.refl _) (.bl true)
  · intro D H1 zs hD k1 hz iz
    rw [im_bls iz] at hz
    walk_at "rd"
    refine rd_all (SqL.of hz) ?_
    rw [all_true]
    walk_at "rd"
    refine rd_dctT ?_
    walk_at "rd"
    refine rd_ddtT (SqT.of (k1 _ _ ht)) (fun D i H' => Same H1 H' ∧ ∃ es, H' D = some (.dT es) ∧ es.map (·.1) = (ws.take i).map goal) (fun D hD => ⟨(Same.refl H1).new hD, [], upd_same, rfl⟩) (fun D i H' _ _ h' => SqT.of (h'.1 _ _ (k1 _ _ ht))) ?_ ?_
    · rintro D i x H2 hD hx ⟨k2, es, he, ee⟩
      obtain ⟨d, hd, ix⟩ := ixs.getV hx
      rw [List.getElem?_map] at hd
      obtain ⟨y, hy, rfl⟩ := Option.map_eq_some_iff.mp hd
      have k12 := k1.trans k2
      walk_at "rd"
      refine wr_cut (ix.up (Tp.of k12)) fun u H3 k3 hu => ?_
      walk_at "rd"
      have grow : ws.take (i + 1) = ws.take i ++ [y] := by rw [List.take_add_one, hy]; rfl
      have nw : goal y ∉ es.map (·.1) := by
        have nd := ok.nd
        rw [← List.take_append_drop (i + 1) ws, grow, List.map_append, List.map_append] at nd
        have nd := (List.nodup_append.mp (List.nodup_append.mp nd).1).2.2
        rw [ee]
        exact fun h => nd _ h _ (List.mem_singleton.mpr rfl) rfl
      have le : es.length = (ws.take i).length := by rw [← List.length_map (f := (·.1)), ee, List.length_map]
      refine ⟨es, goal y, u, rfl, hu, k3 _ _ he, szLt (by rw [le, List.length_take]; omega), (k2.trans k3).put hD, _, upd_same, ?_⟩
      rw [putK_new nw, ee, grow, List.map_append]
      rfl
    · rintro D H2 hD ⟨k2, es, he, ee⟩
      have le : es.length = ws.length := by
        rw [lx, List.take_length] at ee
        rw [← List.length_map (f := (·.1)), ee, List.length_map]
      have k12 := k1.trans k2
      walk_at "rd"
      refine rd_lenDT he ?_
      walk_at "rd"
      refine rd_lenT (SqT.of (k12 _ _ ht)) ?_
      walk_at "rd"
      rw [le, lx, decide_eq_true rfl]
      exact q _ k12
def Φ_is_a_plan (K : PySem.W.Frag) (vd v : V) (H : Hp) (Q : VK) : Prop := ∃ (vs : List Nat) (ss : List Slt) (p : List (List Wr)), Im H vd (dkD vs ss) ∧ Im H v (planD p) ∧ Pok vs.length ss.length p ∧ vs.length ≤ 6 ∧ ss.length ≤ 8 ∧ ∀ H', Same H H' → Q (.bl true) H'
theorem ok_is_a_plan (T : Txt P K mg) {f : Addr} {fd : FuncData} (F : Fun K "is_a_plan" "is_a_plan" s_is_a_plan f fd) : Keeps P w K mg base CX0 5 f fd ["disk", "value"] (sp2 (Φ_is_a_plan K)) := by
  have c_is_tuple := cal (P := P) (w := w) (base := base) T.d_is_tuple fun F => ok_is_tuple T F
  have c_is_stage := cal (P := P) (w := w) (base := base) T.d_is_stage fun F => ok_is_stage T F
  refine keeps0_of F sc_is_a_plan (fun vs H Q E h => ?_) (fun cdv A outer s H vs Q E hr h => ?_)
  · obtain ⟨_, _, rfl, _⟩ := h
    rfl
  obtain ⟨v_disk, v_value, rfl, h⟩ := h
  have hu := hr.hu
  refine ⟨_, (pss_one (ps_ret (pe_and (pe_cal c_is_tuple (hr.mono (by decide)) (by rfl) pass0 (pa_cons (pv 1) (pa_cons pe_int (pa_cons (pe_gk (by rfl) T.c_MOST_STAGES) pa_nil)))) (pe_one (pe_callB (allX (K := K) rfl) (by rfl) T.b_all (by decide +kernel) (pa_cons (pe_lc (own := [("stage", 2)]) rfl sc_is_a_plan.nd (pi_any (K := K) (pv 1)) (blkOk_by (own := [("stage", 2)]) (N := ["disk", "value", "stage"]) (sc := defScope s_is_a_plan) (by decide +kernel)) (fun _ _ _ _ _ => pg_name (i := 2) sc_is_a_plan.nd rfl (by first | exact Or.inl rfl | exact Or.inr rfl)) (fun _ _ _ _ _ => pts_nil) (fun _ _ _ _ _ => (pe_cal c_is_stage (hr.mono (by decide)) (by rfl) pass0 (pa_cons (pv 0) (pa_cons (pv 2) pa_nil))))) pa_nil)))))), ?_⟩
  rw [show start ["disk", "value", "stage"] [v_disk, v_value] = [some v_disk, some v_value, none] from rfl]
  try dsimp only [cxOf, Cx.nox, Cx.wish]
  obtain ⟨vs, ss, p, im, ip, ok, o2, o4, q⟩ := h
  obtain ⟨t, xs, rfl, ht, ixs⟩ := ip.tn
  have lx : xs.length = p.length := by rw [ixs.length, List.length_map]
  have l1 := ok.l1
  have l8 := ok.l8
  walk_at "rd"
  refine tup_yes ht (by omega) (by omega) ?_
  walk_at "rd"
  refine rd_lcT ?_
  walk_at "rd"
  refine rd_imT (as := p) (enc := stD) (p := fun _ => true) (out := fun _ => .bool true) ht ixs (by omega) ?_ ?_
  · intro D x y H1 N hD hy k1 ix _ hN
    walk_at "rd"
    exact ⟨vs, ss, y, im.up (Tp.of k1), ix, ok.ok y hy, o2, o4, fun H2 k2 => hN rfl _ _ k2 (.bl true)⟩
  · intro D H1 zs hD k1 hz iz
    rw [im_bls iz] at hz
    walk_at "rd"
    refine rd_all (SqL.of hz) ?_
    rw [all_true]
    exact q H1 k1
/-! changes -/
def chD (c : Nat × Nat) : PyData := .tuple [nD c.1, nD c.2]
def chsD (cs : List (Nat × Nat)) : PyData := .tuple (cs.map chD)
structure Cok (m : Nat) (cs : List (Nat × Nat)) : Prop where
  ok : ∀ c ∈ cs, c.1 < m ∧ c.2 ≤ 999
  up : ∀ q ∈ cs.zip cs.tail, q.1.1 < q.2.1
  l : cs.length ≤ 6
def Φ_are_changes (K : PySem.W.Frag) (vd v : V) (H : Hp) (Q : VK) : Prop := ∃ (vs : List Nat) (ss : List Slt) (cs : List (Nat × Nat)), Im H vd (dkD vs ss) ∧ Im H v (chsD cs) ∧ Cok vs.length cs ∧ ∀ H', Same H H' → Q (.bl true) H'
theorem ok_are_changes (T : Txt P K mg) {f : Addr} {fd : FuncData} (F : Fun K "are_changes" "are_changes" s_are_changes f fd) : Keeps P w K mg base CX0 2 f fd ["disk", "value"] (sp2 (Φ_are_changes K)) := by
  have c_is_from := cal (P := P) (w := w) (base := base) T.d_is_from fun F => ok_is_from T F
  have c_is_tuple := cal (P := P) (w := w) (base := base) T.d_is_tuple fun F => ok_is_tuple T F
  refine keeps0_of F sc_are_changes (fun vs H Q E h => ?_) (fun cdv A outer s H vs Q E hr h => ?_)
  · obtain ⟨_, _, rfl, _⟩ := h
    rfl
  obtain ⟨v_disk, v_value, rfl, h⟩ := h
  have hu := hr.hu
  refine ⟨_, (pss_cons (ps_if (PW.pt (pw_or (pt_not (pt_val (pe_callB (isiX (K := K)) (by rfl) T.b_isinstance (by decide +kernel) (pa_cons (pv 1) (pa_cons (pe_bltn (v := .ty "tuple") (by rfl) T.b_tuple (by decide +kernel) rfl) pa_nil))))) (pw_or1 (pt_not (pt_val (pe_callB (allX (K := K) rfl) (by rfl) T.b_all (by decide +kernel) (pa_cons (pe_lc (own := [("one", 4)]) rfl sc_are_changes.nd (pi_any (K := K) (pv 1)) (blkOk_by (own := [("one", 4)]) (N := ["disk", "value", "place", "number", "one", "other"]) (sc := defScope s_are_changes) (by decide +kernel)) (fun _ _ _ _ _ => pg_name (i := 4) sc_are_changes.nd rfl (by first | exact Or.inl rfl | exact Or.inr rfl)) (fun _ _ _ _ _ => pts_nil) (fun _ _ _ _ _ => (pe_cal c_is_tuple (hr.mono (by decide)) (by rfl) pass0 (pa_cons (pv 4) (pa_cons pe_int (pa_cons pe_int pa_nil)))))) pa_nil))))))) (pss_one (ps_ret pe_bl)) pss_nil)
      (pss_cons (ps_for PassesOwn.never rfl (pi_any (K := K) (pv 1)) (pg_seqX (K := K) (n := 2) rfl (pgs_cons (pg_name (i := 2) sc_are_changes.nd rfl (by first | exact Or.inl rfl | exact Or.inr rfl)) (pgs_cons (pg_name (i := 3) sc_are_changes.nd rfl (by first | exact Or.inl rfl | exact Or.inr rfl)) pgs_nil))) (pss_one (ps_if (PW.pt (pw_or (pt_not (pt_val (pe_cal c_is_from (hr.mono (by decide)) (by rfl) pass0 (pa_cons (pv 2) (pa_cons pe_int (pa_cons (pe_op oSub (pe_callB (call_lenX (K := K)) (by rfl) T.b_len (by decide +kernel) (pa_cons (pe_ix (ixX (K := K)) (pv 0) pe_int (fun _ _ => rfl)) pa_nil)) pe_int) pa_nil)))))) (pw_or1 (pt_not (pt_val (pe_cal c_is_from (hr.mono (by decide)) (by rfl) pass0 (pa_cons (pv 3) (pa_cons pe_int (pa_cons (pe_gk (by rfl) T.c_MOST_VALUE) pa_nil))))))))) (pss_one (ps_ret pe_bl)) pss_nil)))
      (pss_one (ps_ret (pe_callB (allX (K := K) rfl) (by rfl) T.b_all (by decide +kernel) (pa_cons (pe_lc (own := [("one", 4), ("other", 5)]) rfl sc_are_changes.nd (pi_zipT (K := K) (by rfl) T.b_zip (pa_cons (pv 1) (pa_cons (pe_slice (sX (K := K)) (pv 1) (po_some pe_int) po_none) pa_nil))) (blkOk_by (own := [("one", 4), ("other", 5)]) (N := ["disk", "value", "place", "number", "one", "other"]) (sc := defScope s_are_changes) (by decide +kernel)) (fun _ _ _ _ _ => pg_seqX (K := K) (n := 2) rfl (pgs_cons (pg_name (i := 4) sc_are_changes.nd rfl (by first | exact Or.inl rfl | exact Or.inr rfl)) (pgs_cons (pg_name (i := 5) sc_are_changes.nd rfl (by first | exact Or.inl rfl | exact Or.inr rfl)) pgs_nil))) (fun _ _ _ _ _ => pts_nil) (fun _ _ _ _ _ => (pe_cmpR oLt (pe_ix (ixX (K := K)) (pv 4) pe_int (fun _ _ => rfl)) (pe_ix (ixX (K := K)) (pv 5) pe_int (fun _ _ => rfl)) (nomark _)))) pa_nil)))))), ?_⟩
  rw [show start ["disk", "value", "place", "number", "one", "other"] [v_disk, v_value] = [some v_disk, some v_value, none, none, none, none] from rfl]
  try dsimp only [cxOf, Cx.nox, Cx.wish]
  obtain ⟨vs, ss, cs, im, ic, ok, q⟩ := h
  obtain ⟨t, a, b, rfl, ht, ia, ib⟩ := im.t2
  obtain ⟨ta, as, rfl, ha, ias⟩ := ia.tn
  obtain ⟨u, xs, rfl, hu, ixs⟩ := ic.tn
  have la : as.length = vs.length := by rw [ias.length, List.length_map]
  have lx : xs.length = cs.length := by rw [ixs.length, List.length_map]
  have l := ok.l
  walk_at "rd"
  refine rd_isiT hu ?_
  walk_at "rd"
  refine rd_lcT ?_
  walk_at "rd"
  refine rd_imT (as := cs) (enc := chD) (p := fun _ => true) (out := fun _ => .bool true) hu ixs (by omega) ?_ ?_
  · intro D x y H1 N hD hy k1 ix _ hN
    obtain ⟨t1, y1, y2, rfl, h1, i1, i2⟩ := ix.t2
    walk_at "rd"
    refine tup_yes h1 (by show (2 : Int) ≤ 2; decide) (by show (2 : Int) ≤ 2; decide) ?_
    exact hN rfl _ _ (Same.refl _) (.bl true)
  · intro D H1 zs hD k1 hz iz
    rw [im_bls iz] at hz
    walk_at "rd"
    refine rd_all (SqL.of hz) ?_
    rw [all_true]
    walk_at "rd"
    refine rd_forV (by with_unfolding_all rfl) (.inr (k1 _ _ hu)) (fun i σ H' => H' = H1 ∧ ∃ x1 x2 x3 x4, σ = [some (.ref t), some (.ref u), x1, x2, x3, x4]) ⟨rfl, _, _, _, _, rfl⟩ ?_ ?_ ?_
    · rintro i σ H' ⟨rfl, _⟩ o e
      exact e
    · rintro i x σ H' hx ⟨rfl, x1, x2, x3, x4, rfl⟩
      obtain ⟨d, hd, ix⟩ := ixs.getV hx
      rw [List.getElem?_map] at hd
      obtain ⟨y, hy, rfl⟩ := Option.map_eq_some_iff.mp hd
      obtain ⟨p1, p2⟩ := ok.ok y (List.mem_of_getElem? hy)
      obtain ⟨t1, y1, y2, rfl, h1, i1, i2⟩ := (ix.up (Tp.of k1)).t2
      obtain rfl := i1.i
      obtain rfl := i2.i
      refine rd_gtup (SqT.of h1) rfl ?_
      walk_at "rd"
      refine rd_ixT (SqT.of (k1 _ _ ht)) rfl ?_
      walk_at "rd"
      refine rd_lenT (SqT.of (k1 _ _ ha)) ?_
      walk_at "rd"
      refine from_yes (by omega) (by omega) ?_
      walk_at "rd"
      refine from_yes (by omega) (by omega) ?_
      walk_at "rd"
      exact ⟨rfl, _, _, _, _, rfl⟩
    · rintro σ H' ⟨rfl, x1, x2, x3, x4, rfl⟩
      walk_at "rd"
      refine rd_slTA (k1 _ _ hu) fun r H2 k2 hr _ => ?_
      have k12 : Same H H2 := k1.trans k2
      rw [show cutV xs (some 1) none = xs.drop 1 from cutV_drop xs 1] at hr
      walk_at "rd"
      have it : ImAll H2 (xs.drop 1) (cs.tail.map chD) := by
        rw [← List.drop_one, List.map_drop]
        exact (ixs.up (Tp.of k12)).drop 1
      refine rd_imZT (as := cs) (bs := cs.tail) (enc := chD) (encB := chD) (p := fun _ => true) (out := fun _ => .bool true) (k12 _ _ hu) (ixs.up (Tp.of k12)) hr it (by omega) ?_ ?_
      · rintro D x ⟨c, c'⟩ H3 N hD hy k3 ix _ hN
        have lt := ok.up _ hy
        obtain ⟨t1, y1, y2, rfl, h1, i1, i2⟩ := ix.t2
        obtain ⟨t3, z1, z2, rfl, h3, i3, i4⟩ := i1.t2
        obtain ⟨t4, z3, z4, rfl, h4, i5, i6⟩ := i2.t2
        obtain rfl := i3.i
        obtain rfl := i5.i
        refine rd_lcT1 ?_
        refine rd_gtup (SqT.of h1) rfl ?_
        walk_at "rd"
        rw [decide_eq_true (show ((c.1 : Nat) : Int) < (c'.1 : Nat) by simp only at lt; omega)]
        exact hN rfl _ _ (Same.refl _) (.bl true)
      · intro D H3 zs hD k3 hz iz
        rw [im_bls iz] at hz
        walk_at "rd"
        refine rd_all (SqL.of hz) ?_
        rw [all_true]
        exact q _ (k12.trans k3)
def Φ_need_group (K : PySem.W.Frag) (v : V) (H : Hp) (Q : VK) : Prop := ∃ g : Nat, v = .int g ∧ g ≤ 99 ∧ Q .non H
theorem ok_need_group (T : Txt P K mg) {f : Addr} {fd : FuncData} (F : Fun K "need_group" "need_group" s_need_group f fd) : Keeps P w K mg base CX0 2 f fd ["group"] (sp1 (Φ_need_group K)) := by
  have c_is_from := cal (P := P) (w := w) (base := base) T.d_is_from fun F => ok_is_from T F
  refine keeps0_of F sc_need_group (fun vs H Q E h => ?_) (fun cdv A outer s H vs Q E hr h => ?_)
  · obtain ⟨_, rfl, _⟩ := h
    rfl
  obtain ⟨v_group, rfl, h⟩ := h
  have hu := hr.hu
  refine ⟨_, (pss_one (ps_if (pt_not (pt_val (pe_cal c_is_from (hr.mono (by decide)) (by rfl) pass0 (pa_cons (pv 0) (pa_cons pe_int (pa_cons (pe_gk (by rfl) T.c_MOST_GROUP) pa_nil)))))) (pss_one ps_never) pss_nil)), ?_⟩
  rw [show start ["group"] [v_group] = [some v_group] from rfl]
  try dsimp only [cxOf, Cx.nox, Cx.wish]
  obtain ⟨g, rfl, hg, q⟩ := h
  walk_at "rd"
  refine from_yes (by omega) (by omega) ?_
  walk_at "rd"
  exact q
def Φ_need_changes (K : PySem.W.Frag) (vd v : V) (H : Hp) (Q : VK) : Prop := ∃ (vs : List Nat) (ss : List Slt) (cs : List (Nat × Nat)), Im H vd (dkD vs ss) ∧ Im H v (chsD cs) ∧ Cok vs.length cs ∧ ∀ H', Same H H' → Q .non H'
theorem ok_need_changes (T : Txt P K mg) {f : Addr} {fd : FuncData} (F : Fun K "need_changes" "need_changes" s_need_changes f fd) : Keeps P w K mg base CX0 3 f fd ["disk", "changes"] (sp2 (Φ_need_changes K)) := by
  have c_are_changes := cal (P := P) (w := w) (base := base) T.d_are_changes fun F => ok_are_changes T F
  refine keeps0_of F sc_need_changes (fun vs H Q E h => ?_) (fun cdv A outer s H vs Q E hr h => ?_)
  · obtain ⟨_, _, rfl, _⟩ := h
    rfl
  obtain ⟨v_disk, v_changes, rfl, h⟩ := h
  have hu := hr.hu
  refine ⟨_, (pss_one (ps_if (pt_not (pt_val (pe_cal c_are_changes (hr.mono (by decide)) (by rfl) pass0 (pa_cons (pv 0) (pa_cons (pv 1) pa_nil))))) (pss_one ps_never) pss_nil)), ?_⟩
  rw [show start ["disk", "changes"] [v_disk, v_changes] = [some v_disk, some v_changes] from rfl]
  try dsimp only [cxOf, Cx.nox, Cx.wish]
  obtain ⟨vs, ss, cs, im, ic, ok, q⟩ := h
  walk_at "rd"
  refine ⟨vs, ss, cs, im, ic, ok, fun H1 k1 => ?_⟩
  walk_at "rd"
  exact q _ k1
/-! plans -/
def putW (g : Nat) (c : (Nat × Nat) × Nat) : Wr := .sl c.2 (some (.pu g c.1.1 c.1.2))
def valW (c : Nat × Nat) : Wr := .va c.1 c.2
def clrW (i : Nat) : Wr := .sl i none
def full (ws : List Wr) : Bool := !ws.isEmpty
/-- the plan for these changes -/
def four (g : Nat) (cs : List (Nat × Nat)) : List (List Wr) := [cs.zipIdx.map (putW g), [.sl cs.length (some (.en g cs.length))], cs.map valW, (List.range (cs.length + 1)).map clrW]
def planOf (g : Nat) (cs : List (Nat × Nat)) : List (List Wr) := (four g cs).filter full
theorem idx_mem {α : Type} {cs : List α} {q : α × Nat} (h : q ∈ cs.zipIdx) : q.2 < cs.length ∧ q.1 ∈ cs := by
  obtain ⟨c, i⟩ := q
  have e := List.mem_zipIdx h
  simp only [Nat.zero_add, Nat.sub_zero] at e
  exact ⟨e.2.1, by rw [e.2.2]; exact List.getElem_mem _⟩
theorem nodup_map {α β : Type} {f : α → β} {l : List α} (h : l.Nodup) (inj : ∀ x ∈ l, ∀ y ∈ l, f x = f y → x = y) : (l.map f).Nodup := by
  induction l with
  | nil => exact List.nodup_nil
  | cons a l ih =>
    rw [List.map_cons, List.nodup_cons]
    obtain ⟨h1, h2⟩ := List.nodup_cons.mp h
    refine ⟨fun q => ?_, ih h2 fun x hx y hy => inj x (List.mem_cons_of_mem _ hx) y (List.mem_cons_of_mem _ hy)⟩
    obtain ⟨b, hb, e⟩ := List.mem_map.mp q
    exact h1 (inj b (List.mem_cons_of_mem _ hb) a List.mem_cons_self e ▸ hb)
/-- keys that ascend are distinct -/
theorem up_nodup : ∀ {cs : List (Nat × Nat)}, (∀ q ∈ cs.zip cs.tail, q.1.1 < q.2.1) → (cs.map (·.1)).Nodup ∧ ∀ c r, cs = c :: r → ∀ d ∈ r, c.1 < d.1
  | [], _ => ⟨List.nodup_nil, fun _ _ e => nomatch e⟩
  | [c], _ => ⟨by simp, fun c' r e => by cases e; exact fun _ h => nomatch h⟩
  | c :: d :: r, h => by
    obtain ⟨ih, ih2⟩ := up_nodup (cs := d :: r) fun q hq => h q (List.mem_cons_of_mem _ hq)
    have cd : c.1 < d.1 := h (c, d) List.mem_cons_self
    have all : ∀ e ∈ d :: r, c.1 < e.1 := fun e he => by
      rcases List.mem_cons.mp he with rfl | he
      · exact cd
      · exact Nat.lt_trans cd (ih2 _ _ rfl e he)
    refine ⟨?_, fun c' r' e => by cases e; exact all⟩
    rw [List.map_cons, List.nodup_cons]
    refine ⟨fun q => ?_, ih⟩
    obtain ⟨e, he, q⟩ := List.mem_map.mp q
    have := all e he
    omega
theorem four_ok {m k g : Nat} {cs : List (Nat × Nat)} (ok : Cok m cs) (hk : cs.length + 1 ≤ k) (hg : g ≤ 99) : ∀ s ∈ four g cs, s.length ≤ 8 ∧ (∀ w ∈ s, Wrok m k w) ∧ (s.map goal).Nodup := by
  intro s hs
  have l6 := ok.l
  simp only [four, List.mem_cons, List.not_mem_nil, or_false] at hs
  rcases hs with rfl | rfl | rfl | rfl
  · refine ⟨by rw [List.length_map, List.length_zipIdx]; omega, fun w hw => ?_, ?_⟩
    · obtain ⟨q, hq, rfl⟩ := List.mem_map.mp hw
      obtain ⟨h1, h2⟩ := idx_mem hq
      obtain ⟨h3, h4⟩ := ok.ok _ h2
      exact ⟨by omega, hg, h3, h4⟩
    · rw [List.map_map]
      have e : cs.zipIdx.map (goal ∘ putW g) = (List.range cs.length).map fun i => [.inr "slot", .inl (i : Int)] := by
        have z : (List.range cs.length) = cs.zipIdx.map (·.2) := by
          rw [List.zipIdx_map_snd, List.range_eq_range']
        rw [z, List.map_map]
        rfl
      rw [e]
      refine nodup_map List.nodup_range fun x _ y _ h => ?_
      have h := Sum.inl.inj (List.cons.inj (List.cons.inj h).2).1
      omega
  · refine ⟨by show 1 ≤ 8; decide, fun w hw => ?_, by simp⟩
    rw [List.mem_singleton.mp hw]
    exact ⟨by omega, hg, by omega⟩
  · refine ⟨by rw [List.length_map]; omega, fun w hw => ?_, ?_⟩
    · obtain ⟨c, hc, rfl⟩ := List.mem_map.mp hw
      exact ok.ok c hc
    · rw [List.map_map]
      have nd := (up_nodup ok.up).1
      have e : cs.map (goal ∘ valW) = (cs.map (·.1)).map fun i => [.inr "value", .inl (i : Int)] := by rw [List.map_map]; rfl
      rw [e]
      refine nodup_map nd fun x _ y _ h => ?_
      have h := Sum.inl.inj (List.cons.inj (List.cons.inj h).2).1
      omega
  · refine ⟨by rw [List.length_map, List.length_range]; omega, fun w hw => ?_, ?_⟩
    · obtain ⟨i, hi, rfl⟩ := List.mem_map.mp hw
      have := List.mem_range.mp hi
      exact ⟨by omega, True.intro⟩
    · rw [List.map_map]
      refine nodup_map List.nodup_range fun x _ y _ h => ?_
      have h := Sum.inl.inj (List.cons.inj (List.cons.inj h).2).1
      omega
theorem planOf_ok {m k g : Nat} {cs : List (Nat × Nat)} (ok : Cok m cs) (hk : cs.length + 1 ≤ k) (hg : g ≤ 99) : Pok m k (planOf g cs) where
  l1 := by
    have h : [.sl cs.length (some (.en g cs.length))] ∈ planOf g cs := List.mem_filter.mpr ⟨List.mem_cons_of_mem _ List.mem_cons_self, rfl⟩
    exact List.length_pos_of_mem h
  l8 := Nat.le_trans (List.length_filter_le _ _) (by show 4 ≤ 8; decide)
  ok := fun s hs => by
    obtain ⟨h1, h2⟩ := List.mem_filter.mp hs
    obtain ⟨h3, h4, h5⟩ := four_ok ok hk hg s h1
    refine ⟨?_, h3, h4, h5⟩
    cases s with
    | nil => cases h2
    | cons w s => exact Nat.succ_le_succ (Nat.zero_le _)
theorem stD_bd {m k : Nat} (hm : m ≤ 6) (hk : k ≤ 8) {ws : List Wr} (h8 : ws.length ≤ 8) (h : ∀ w ∈ ws, Wrok m k w) : Bd 3 2500 (stD ws) :=
  (Bd.tup (k := 2) (w := 300) fun d hd => by
    obtain ⟨w, hw, rfl⟩ := List.mem_map.mp hd
    exact wrD_bd hm hk (h w hw)).mono (by omega) (by rw [List.length_map]; omega)
/-- a stage is not () -/
theorem stD_full {ws : List Wr} : (!PyData.eqv (stD ws) (.tuple [])) = full ws := by
  cases ws with
  | nil => rfl
  | cons w ws => rfl
def Φ_is_plan (K : PySem.W.Frag) (vd v : V) (H : Hp) (Q : VK) : Prop := ∃ (vs : List Nat) (ss : List Slt) (p : List (List Wr)), Im H vd (dkD vs ss) ∧ Im H v (planD p) ∧ Dok vs ss ∧ Pok vs.length ss.length p ∧ ∀ H', Same H H' → Q (.bl true) H'
theorem ok_is_plan (T : Txt P K mg) {f : Addr} {fd : FuncData} (F : Fun K "is_plan" "is_plan" s_is_plan f fd) : Keeps P w K mg base CX0 6 f fd ["disk", "value"] (sp2 (Φ_is_plan K)) := by
  have c_need_disk := cal (P := P) (w := w) (base := base) T.d_need_disk fun F => ok_need_disk T F
  have c_is_a_plan := cal (P := P) (w := w) (base := base) T.d_is_a_plan fun F => ok_is_a_plan T F
  refine keeps0_of F sc_is_plan (fun vs H Q E h => ?_) (fun cdv A outer s H vs Q E hr h => ?_)
  · obtain ⟨_, _, rfl, _⟩ := h
    rfl
  obtain ⟨v_disk, v_value, rfl, h⟩ := h
  have hu := hr.hu
  refine ⟨_, (pss_cons (ps_expr (pe_cal c_need_disk (hr.mono (by decide)) (by rfl) pass0 (pa_cons (pv 0) pa_nil)))
      (pss_one (ps_ret (pe_cal c_is_a_plan (hr.mono (by decide)) (by rfl) pass0 (pa_cons (pv 0) (pa_cons (pv 1) pa_nil)))))), ?_⟩
  rw [show start ["disk", "value"] [v_disk, v_value] = [some v_disk, some v_value] from rfl]
  try dsimp only [cxOf, Cx.nox, Cx.wish]
  obtain ⟨vs, ss, p, im, ip, dok, ok, q⟩ := h
  walk_at "rd"
  refine ⟨vs, ss, im, dok, fun H1 k1 => ?_⟩
  walk_at "rd"
  exact ⟨vs, ss, p, im.up (Tp.of k1), ip.up (Tp.of k1), ok, dok.v6, dok.s8, fun H2 k2 => q _ (k1.trans k2)⟩

theorem im_blsF {H : Hp} {α : Type} {as : List α} {f : α → Bool} {ys : List V} (h : ImAll H ys ((as.filter fun _ => true).map fun a => PyData.bool (f a))) : ys = (as.map f).map V.bl := by
  rw [List.filter_eq_self.mpr (fun _ _ => rfl)] at h
  induction as generalizing ys with
  | nil => cases h; rfl
  | cons a as ih =>
    cases h with
    | cons h1 h2 =>
      rw [h1.b, ih h2]
      rfl
def Φ_need_empty (K : PySem.W.Frag) (mg : Str → Option Value) (v : V) (H : Hp) (Q : VK) (E : XK) : Prop := ∃ (vs : List Nat) (ss : List Slt), Im H v (dkD vs ss) ∧ ss.length ≤ 8 ∧ (ss.any Option.isSome = false → ∀ H', Same H H' → Q .non H') ∧ (ss.any Option.isSome = true → ∀ C H', mg "NotEmpty" = some (.ref C) → Same H H' → E (.ref C) none H')
theorem ok_need_empty (T : Txt P K mg) {f : Addr} {fd : FuncData} (F : Fun K "need_empty" "need_empty" s_need_empty f fd) : Keeps P w K mg base (L2.CX P w) 1 f fd ["disk"] (sp1x (Φ_need_empty K mg)) := by
  obtain ⟨C_NotEmpty, e_NotEmpty⟩ := T.e_NotEmpty
  refine keeps_of F sc_need_empty (fun vs H Q E h => ?_) (fun cdv A outer s H vs Q E hr h => ?_)
  · obtain ⟨_, rfl, _⟩ := h
    rfl
  obtain ⟨v_disk, rfl, h⟩ := h
  have hu := hr.hu
  refine ⟨_, (pss_one (ps_if (pt_val (pe_callB (anyX (K := K) rfl) (by rfl) T.b_any (by decide +kernel) (pa_cons (pe_lc (own := [("item", 1)]) rfl sc_need_empty.nd (pi_any (K := K) (pe_ix (ixX (K := K)) (pv 0) pe_int (fun _ _ => rfl))) (blkOk_by (own := [("item", 1)]) (N := ["disk", "item"]) (sc := defScope s_need_empty) (by decide +kernel)) (fun _ _ _ _ _ => pg_name (i := 1) sc_need_empty.nd rfl (by first | exact Or.inl rfl | exact Or.inr rfl)) (fun _ _ _ _ _ => pts_nil) (fun _ _ _ _ _ => (pe_cmpR oIsNot (pv 1) pe_non (nomark _)))) pa_nil))) (pss_one (ps_raiseX rfl (takes_of rfl rfl rfl rfl) e_NotEmpty (by rfl))) pss_nil)), ?_⟩
  rw [show start ["disk", "item"] [v_disk] = [some v_disk, none] from rfl]
  try dsimp only [cxOf, Cx.nox, Cx.wish]
  obtain ⟨vs, ss, im, l8, q0, q1⟩ := h
  obtain ⟨t, a, b, rfl, ht, ia, ib⟩ := im.t2
  obtain ⟨tb, ys, rfl, hb, iys⟩ := ib.tn
  walk_at "rd"
  refine rd_lcT ?_
  walk_at "rd"
  refine rd_imT (as := ss) (enc := slD) (p := fun _ => true) (out := fun x => .bool x.isSome) hb iys (by omega) ?_ ?_
  · intro D x y H1 N hD hy k1 ix _ hN
    walk_at "rd"
    cases y with
    | none =>
      obtain rfl := ix.n
      exact hN rfl _ _ (Same.refl _) (.bl false)
    | some y =>
      rw [non_im ix]
      exact hN rfl _ _ (Same.refl _) (.bl true)
  · intro D H1 zs hD k1 hz iz
    rw [im_blsF iz] at hz
    walk_at "rd"
    refine rd_any (SqL.of hz) ?_
    have e : (ss.map Option.isSome).any id = ss.any Option.isSome := by rw [List.any_map]; rfl
    rw [e]
    walk_at "rd"
    refine rd_ite (fun h => ?_) (fun h => ?_)
    · walk_at "rd"
      exact q1 h _ H1 e_NotEmpty.g k1
    · walk_at "rd"
      exact q0 h H1 k1
def Φ_plan_for (K : PySem.W.Frag) (mg : Str → Option Value) (vd vg vc : V) (H : Hp) (Q : VK) (E : XK) : Prop := ∃ (vs : List Nat) (ss : List Slt) (g : Nat) (cs : List (Nat × Nat)), Im H vd (dkD vs ss) ∧ Dok vs ss ∧ vg = .int g ∧ g ≤ 99 ∧ Im H vc (chsD cs) ∧ Cok vs.length cs ∧
  (ss.any Option.isSome = true → ∀ C H', mg "NotEmpty" = some (.ref C) → Same H H' → E (.ref C) none H') ∧ (ss.any Option.isSome = false → ss.length < cs.length + 1 → ∀ C H', mg "NoRoom" = some (.ref C) → Same H H' → E (.ref C) none H') ∧
  (ss.any Option.isSome = false → cs.length + 1 ≤ ss.length → ∀ u H', Same H H' → Im H' u (planD (planOf g cs)) → Q u H')
theorem ok_plan_for (T : Txt P K mg) {f : Addr} {fd : FuncData} (F : Fun K "plan_for" "plan_for" s_plan_for f fd) : Keeps P w K mg base (L2.CX P w) 5 f fd ["disk", "group", "changes"] (sp3x (Φ_plan_for K mg)) := by
  obtain ⟨C_NoRoom, e_NoRoom⟩ := T.e_NoRoom
  have c_need_disk := cal (P := P) (w := w) (base := base) T.d_need_disk fun F => ok_need_disk T F
  have c_need_group := cal (P := P) (w := w) (base := base) T.d_need_group fun F => ok_need_group T F
  have c_need_changes := cal (P := P) (w := w) (base := base) T.d_need_changes fun F => ok_need_changes T F
  have c_need_empty := cal (P := P) (w := w) (base := base) T.d_need_empty fun F => ok_need_empty T F
  refine keeps_of F sc_plan_for (fun vs H Q E h => ?_) (fun cdv A outer s H vs Q E hr h => ?_)
  · obtain ⟨_, _, _, rfl, _⟩ := h
    rfl
  obtain ⟨v_disk, v_group, v_changes, rfl, h⟩ := h
  have hu := hr.hu
  refine ⟨_, (pss_cons (ps_expr (pe_cal c_need_disk (hr.mono (by decide)) (by rfl) pass0 (pa_cons (pv 0) pa_nil)))
      (pss_cons (ps_expr (pe_cal c_need_group (hr.mono (by decide)) (by rfl) pass0 (pa_cons (pv 1) pa_nil)))
      (pss_cons (ps_expr (pe_cal c_need_changes (hr.mono (by decide)) (by rfl) pass0 (pa_cons (pv 0) (pa_cons (pv 2) pa_nil))))
      (pss_cons (ps_expr (pe_calS c_need_empty (hr.mono (by decide)) (by rfl) (fun σ => passAt (takes_of rfl rfl rfl rfl) σ) (pa_cons (pv 0) pa_nil)))
      (pss_cons (ps_set (i := 3) sc_plan_for.nd rfl (by first | exact Or.inl rfl | exact Or.inr rfl) (pe_callB (call_lenX (K := K)) (by rfl) T.b_len (by decide +kernel) (pa_cons (pv 2) pa_nil)))
      (pss_cons (ps_if (pt_cmpR oGt (pe_op (oAdd (K := K)) (pv 3) pe_int) (pe_callB (call_lenX (K := K)) (by rfl) T.b_len (by decide +kernel) (pa_cons (pe_ix (ixX (K := K)) (pv 0) pe_int (fun _ _ => rfl)) pa_nil)) (nomark _)) (pss_one (ps_raiseX rfl (takes_of rfl rfl rfl rfl) e_NoRoom (by rfl))) pss_nil)
      (pss_cons (ps_set (i := 4) sc_plan_for.nd rfl (by first | exact Or.inl rfl | exact Or.inr rfl) (pe_callTy (callTupX (K := K)) (by rfl) T.b_tuple (by decide +kernel) (pa_cons (pe_lc (own := [("at", 8), ("change", 9)]) rfl sc_plan_for.nd (pi_enumT (K := K) (by rfl) T.b_enumerate (pa_cons (pv 2) pa_nil)) (blkOk_by (own := [("at", 8), ("change", 9)]) (N := ["disk", "group", "changes", "many", "puts", "values", "cleared", "stages", "at", "change", "stage"]) (sc := defScope s_plan_for) (by decide +kernel)) (fun _ _ _ _ _ => pg_seqX (K := K) (n := 2) rfl (pgs_cons (pg_name (i := 8) sc_plan_for.nd rfl (by first | exact Or.inl rfl | exact Or.inr rfl)) (pgs_cons (pg_name (i := 9) sc_plan_for.nd rfl (by first | exact Or.inl rfl | exact Or.inr rfl)) pgs_nil))) (fun _ _ _ _ _ => pts_nil) (fun _ _ _ _ _ => (pe_tup (pa_cons pe_str (pa_cons (pv 8) (pa_cons (pe_op (oAdd (K := K)) (pe_tup (pa_cons pe_str (pa_cons (pv 1) pa_nil))) (pv 9)) pa_nil)))))) pa_nil)))
      (pss_cons (ps_set (i := 5) sc_plan_for.nd rfl (by first | exact Or.inl rfl | exact Or.inr rfl) (pe_callTy (callTupX (K := K)) (by rfl) T.b_tuple (by decide +kernel) (pa_cons (pe_lc (own := [("change", 9)]) rfl sc_plan_for.nd (pi_any (K := K) (pv 2)) (blkOk_by (own := [("change", 9)]) (N := ["disk", "group", "changes", "many", "puts", "values", "cleared", "stages", "at", "change", "stage"]) (sc := defScope s_plan_for) (by decide +kernel)) (fun _ _ _ _ _ => pg_name (i := 9) sc_plan_for.nd rfl (by first | exact Or.inl rfl | exact Or.inr rfl)) (fun _ _ _ _ _ => pts_nil) (fun _ _ _ _ _ => (pe_op (oAdd (K := K)) (pe_tup (pa_cons pe_str pa_nil)) (pv 9)))) pa_nil)))
      (pss_cons (ps_set (i := 6) sc_plan_for.nd rfl (by first | exact Or.inl rfl | exact Or.inr rfl) (pe_callTy (callTupX (K := K)) (by rfl) T.b_tuple (by decide +kernel) (pa_cons (pe_lc (own := [("at", 8)]) rfl sc_plan_for.nd (pi_range1 (by rfl) T.b_range (pa_cons (pe_op (oAdd (K := K)) (pv 3) pe_int) pa_nil)) (blkOk_by (own := [("at", 8)]) (N := ["disk", "group", "changes", "many", "puts", "values", "cleared", "stages", "at", "change", "stage"]) (sc := defScope s_plan_for) (by decide +kernel)) (fun _ _ _ _ _ => pg_name (i := 8) sc_plan_for.nd rfl (by first | exact Or.inl rfl | exact Or.inr rfl)) (fun _ _ _ _ _ => pts_nil) (fun _ _ _ _ _ => (pe_tup (pa_cons pe_str (pa_cons (pv 8) (pa_cons pe_non pa_nil)))))) pa_nil)))
      (pss_cons (ps_set (i := 7) sc_plan_for.nd rfl (by first | exact Or.inl rfl | exact Or.inr rfl) (pe_tup (pa_cons (pv 4) (pa_cons (pe_tup (pa_cons (pe_tup (pa_cons pe_str (pa_cons (pv 3) (pa_cons (pe_tup (pa_cons pe_str (pa_cons (pv 1) (pa_cons (pv 3) pa_nil)))) pa_nil)))) pa_nil)) (pa_cons (pv 5) (pa_cons (pv 6) pa_nil))))))
      (pss_one (ps_ret (pe_callTy (callTupX (K := K)) (by rfl) T.b_tuple (by decide +kernel) (pa_cons (pe_lc (own := [("stage", 10)]) rfl sc_plan_for.nd (pi_any (K := K) (pv 7)) (blkOk_by (own := [("stage", 10)]) (N := ["disk", "group", "changes", "many", "puts", "values", "cleared", "stages", "at", "change", "stage"]) (sc := defScope s_plan_for) (by decide +kernel)) (fun _ _ _ _ _ => pg_name (i := 10) sc_plan_for.nd rfl (by first | exact Or.inl rfl | exact Or.inr rfl)) (fun _ _ _ _ _ => pts_one (pt_cmpR (oNe (K := K) hr.u65) (pv 10) (pe_tup pa_nil) (nomark _))) (fun _ _ _ _ _ => (pv 10))) pa_nil)))))))))))))), ?_⟩
  rw [show start ["disk", "group", "changes", "many", "puts", "values", "cleared", "stages", "at", "change", "stage"] [v_disk, v_group, v_changes] = [some v_disk, some v_group, some v_changes, none, none, none, none, none, none, none, none] from rfl]
  try dsimp only [cxOf, Cx.nox, Cx.wish]
  obtain ⟨vs, ss, g, cs, im, dok, rfl, hg, ic, ok, q1, q2, q3⟩ := h
  have l6 := ok.l
  have s8 := dok.s8
  walk_at "rd"
  refine ⟨vs, ss, im, dok, fun H1 k1 => ?_⟩
  walk_at "rd"
  refine ⟨g, rfl, hg, ?_⟩
  walk_at "rd"
  refine ⟨vs, ss, cs, im.up (Tp.of k1), ic.up (Tp.of k1), ok, fun H2 k2 => ?_⟩
  have k12 := k1.trans k2
  walk_at "rd"
  refine ⟨vs, ss, im.up (Tp.of k12), s8, fun he H3 k3 => ?_, fun he C H3 hC k3 => q1 he C H3 hC (k12.trans k3)⟩
  have k13 := k12.trans k3
  obtain ⟨t, a, b, rfl, ht, ia, ib⟩ := im.t2
  obtain ⟨tb, ys, rfl, hb, iys⟩ := ib.tn
  have ly : ys.length = ss.length := by rw [iys.length, List.length_map]
  obtain ⟨u, xs, rfl, hu, ixs⟩ := ic.tn
  have lx : xs.length = cs.length := by rw [ixs.length, List.length_map]
  walk_at "rd"
  refine rd_lenT (SqT.of (k13 _ _ hu)) ?_
  walk_at "rd"
  have ht3 := k13 _ _ ht
  walk_at "rd"
  refine rd_lenT (SqT.of (k13 _ _ hb)) ?_
  walk_at "rd"
  refine rd_ite (fun h => ?_) (fun h => ?_)
  · walk_at "rd"
    have h := of_decide_eq_true h
    exact q2 he (by omega) _ H3 e_NoRoom.g k13
  · have h := of_decide_eq_false h
    walk_at "rd"
    refine rd_imET (as := cs) (enc := chD) (p := fun _ => true) (out := fun q => wrD (putW g q)) (k13 _ _ hu) (ixs.up (Tp.of k13)) (by omega) ?_ ?_
    · rintro D x ⟨c, i⟩ H4 N hD hy k4 ix _ hN
      obtain ⟨t1, y1, y2, rfl, h1, i1, i2⟩ := ix.t2
      obtain rfl := i1.i
      obtain ⟨t3, z1, z2, rfl, h3, i3, i4⟩ := i2.t2
      obtain rfl := i3.i
      obtain rfl := i4.i
      refine rd_lcT1 ?_
      refine rd_gtup (SqT.of h1) rfl ?_
      walk_at "rd"
      intro p hp
      walk_at "rd"
      have k5 := (Same.refl H4).new (o := .tup [.str "put", .int (g : Int)]) hp
      refine rd_catT (SqT.of upd_same) (SqT.of (k5 _ _ h3)) (fun z => nomatch z) (fun z => nomatch z) (szOk (show 2 + 2 ≤ 1000000 by decide)) fun r hr => ?_
      have k6 := k5.new (o := .tup [.str "put", .int (g : Int), .int c.1, .int c.2]) hr
      walk_at "rd"
      intro r2 hr2
      have k7 := k6.new (o := .tup [.str "slot", .int (i : Int), .ref r]) hr2
      refine hN rfl _ _ k7 (.mk3 upd_same (.str _) (.int _) ?_)
      refine Im.mk4 (?_) (.str _) (.int _) (.int _) (.int _)
      rw [upd_ne (ne_of_none upd_same hr2)]
      exact upd_same
    · intro D H4 zs hD k4 hz iz
      rw [List.filter_eq_self.mpr (fun _ _ => rfl)] at iz
      have iz : ImAll H4 zs ((cs.zipIdx.map (putW g)).map wrD) := by rw [List.map_map]; exact iz
      walk_at "rd"
      refine rd_tupL (SqL.of hz) fun r hr => ?_
      have k5 := (Same.refl H4).new (o := .tup zs) hr
      have p1 : (upd H4 r (.tup zs)) r = some (.tup zs) := upd_same
      replace iz := iz.up (Tp.of k5)
      have k15 := (k13.trans k4).trans k5
      generalize upd H4 r (.tup zs) = H5 at p1 iz k15 k5 ⊢
      walk_at "rd"
      refine rd_lcT ?_
      walk_at "rd"
      refine rd_imT (as := cs) (enc := chD) (p := fun _ => true) (out := fun q => wrD (valW q)) (k15 _ _ hu) (ixs.up (Tp.of k15)) (by omega) ?_ ?_
      · rintro D x c H6 N hD hy k6 ix _ hN
        obtain ⟨t3, z1, z2, rfl, h3, i3, i4⟩ := ix.t2
        obtain rfl := i3.i
        obtain rfl := i4.i
        walk_at "rd"
        intro p hp
        have k7 := (Same.refl H6).new (o := .tup [.str "value"]) hp
        walk_at "rd"
        refine rd_catT (SqT.of upd_same) (SqT.of (k7 _ _ h3)) (fun z => nomatch z) (fun z => nomatch z) (szOk (show 1 + 2 ≤ 1000000 by decide)) fun r hr => ?_
        exact hN rfl _ _ (k7.new hr) (.mk3 upd_same (.str _) (.int _) (.int _))
      · intro D H6 zs2 hD k6 hz2 iz2
        rw [List.filter_eq_self.mpr (fun _ _ => rfl)] at iz2
        have iz2 : ImAll H6 zs2 ((cs.map valW).map wrD) := by rw [List.map_map]; exact iz2
        walk_at "rd"
        refine rd_tupL (SqL.of hz2) fun r2 hr2 => ?_
        have k7 := (Same.refl H6).new (o := .tup zs2) hr2
        have p2 : (upd H6 r2 (.tup zs2)) r2 = some (.tup zs2) := upd_same
        replace iz2 := iz2.up (Tp.of k7)
        have p1 := k7 _ _ (k6 _ _ p1)
        replace iz := iz.up (Tp.of (k6.trans k7))
        have k17 := (k15.trans k6).trans k7
        generalize upd H6 r2 (.tup zs2) = H7 at p1 p2 iz iz2 k17 k7 ⊢
        walk_at "rd"
        refine rd_imR (p := fun _ => true) (out := fun i => wrD (clrW i)) (by omega) (by omega) ?_ ?_
        · rintro D x i H8 N hD hy k8 ix _ hN
          obtain rfl := ix.i
          walk_at "rd"
          intro p hp
          exact hN rfl _ _ ((Same.refl _).new hp) (.mk3 upd_same (.str _) (.int _) .non)
        · intro D H8 zs3 hD k8 hz3 iz3
          rw [List.filter_eq_self.mpr (fun _ _ => rfl), show ((xs.length : Int) + 1).toNat = cs.length + 1 by omega] at iz3
          have iz3 : ImAll H8 zs3 (((List.range (cs.length + 1)).map clrW).map wrD) := by rw [List.map_map]; exact iz3
          walk_at "rd"
          refine rd_tupL (SqL.of hz3) fun r3 hr3 => ?_
          have k9 := (Same.refl H8).new (o := .tup zs3) hr3
          have p3 : (upd H8 r3 (.tup zs3)) r3 = some (.tup zs3) := upd_same
          replace iz3 := iz3.up (Tp.of k9)
          have p1 := k9 _ _ (k8 _ _ p1)
          have p2 := k9 _ _ (k8 _ _ p2)
          replace iz := iz.up (Tp.of (k8.trans k9))
          replace iz2 := iz2.up (Tp.of (k8.trans k9))
          have k19 := (k17.trans k8).trans k9
          generalize upd H8 r3 (.tup zs3) = H9 at p1 p2 p3 iz iz2 iz3 k19 k9 ⊢
          walk_at "rd"
          intro e1 he1
          walk_at "rd"
          intro e2 he2
          walk_at "rd"
          intro e3 he3
          walk_at "rd"
          intro e4 he4
          rw [show (xs.length : Int) = (cs.length : Int) by omega] at *
          have m1 := (Same.refl H9).new (o := .tup [.str "end", .int (g : Int), .int (cs.length : Int)]) he1
          have i1 : Im (upd H9 e1 (.tup [.str "end", .int (g : Int), .int (cs.length : Int)])) (.ref e1) (slD (some (.en g cs.length))) := .mk3 upd_same (.str _) (.int _) (.int _)
          generalize upd H9 e1 (.tup [.str "end", .int (g : Int), .int (cs.length : Int)]) = G1 at m1 i1 he2 he3 he4 ⊢
          have m2 := (Same.refl G1).new (o := .tup [.str "slot", .int (cs.length : Int), .ref e1]) he2
          have i2 : Im (upd G1 e2 (.tup [.str "slot", .int (cs.length : Int), .ref e1])) (.ref e2) (wrD (.sl cs.length (some (.en g cs.length)))) := .mk3 upd_same (.str _) (.int _) (i1.up (Tp.of m2))
          generalize upd G1 e2 (.tup [.str "slot", .int (cs.length : Int), .ref e1]) = G2 at m2 i2 he3 he4 ⊢
          have m3 := (Same.refl G2).new (o := .tup [.ref e2]) he3
          have i3 : Im (upd G2 e3 (.tup [.ref e2])) (.ref e3) (stD [.sl cs.length (some (.en g cs.length))]) := .tup upd_same (.cons (i2.up (Tp.of m3)) .nil)
          generalize upd G2 e3 (.tup [.ref e2]) = G3 at m3 i3 he4 ⊢
          have m4 := (Same.refl G3).new (o := .tup [.ref r, .ref e3, .ref r2, .ref r3]) he4
          have p4 : (upd G3 e4 (.tup [.ref r, .ref e3, .ref r2, .ref r3])) e4 = some (.tup [.ref r, .ref e3, .ref r2, .ref r3]) := upd_same
          generalize upd G3 e4 (.tup [.ref r, .ref e3, .ref r2, .ref r3]) = G4 at m4 p4 ⊢
          have m14 := ((m1.trans m2).trans m3).trans m4
          have all : ImAll G4 [.ref r, .ref e3, .ref r2, .ref r3] ((four g cs).map stD) := .cons (.tup (m14 _ _ p1) (iz.up (Tp.of m14))) (.cons (i3.up (Tp.of m4)) (.cons (.tup (m14 _ _ p2) (iz2.up (Tp.of m14))) (.cons (.tup (m14 _ _ p3) (iz3.up (Tp.of m14))) .nil)))
          have km := k19.trans m14
          walk_at "rd"
          refine rd_lcT ?_
          walk_at "rd"
          refine rd_imT (as := four g cs) (enc := stD) (p := full) (out := stD) p4 all (by show 4 ≤ 1000000; decide) ?_ ?_
          · rintro D x ws H10 N hD hy k10 ix hN0 hN1
            obtain ⟨f1, f2, f3⟩ := four_ok (g := g) ok (show cs.length + 1 ≤ ss.length by omega) hg ws hy
            walk_at "rd"
            intro n hn
            have n1 := (Same.refl H10).new (o := .tup []) hn
            refine rd_neD (d := stD ws) (e := .tuple []) (ix.up (Tp.of n1)).to (Im.tup upd_same .nil).to ((stD_bd dok.v6 dok.s8 f1 f2).shaped (by omega)) rfl ?_
            rw [stD_full]
            walk_at "rd"
            refine rd_ite (fun h => ?_) (fun h => ?_)
            · walk_at "rd"
              exact hN1 h _ _ n1 (ix.up (Tp.of n1))
            · exact hN0 h _ n1
          · intro D H10 zs4 hD k10 hz4 iz4
            walk_at "rd"
            refine rd_tupL (SqL.of hz4) fun r4 hr4 => ?_
            have n1 := (Same.refl H10).new (o := .tup zs4) hr4
            exact q3 he (by omega) _ _ ((km.trans k10).trans n1) (.tup upd_same (iz4.up (Tp.of n1)))

/-! ## The law's own disks -/
theorem Kp.tp {d : Addr} {m : Nat} {H H' : Hp} (k : Kp d H H') (h : Dk d m H) : Tp H H' := fun a xs e => by
  refine k a _ (fun q => ?_) e
  obtain ⟨x, y, c, h1, _⟩ := h
  rw [q, h1] at e
  cases e
def Φ_law_pot (K : PySem.W.Frag) (vs vk : V) (H : Hp) (Q : VK) : Prop := ∃ (a : Addr) (ns : List Int) (k : Int), vs = .ref a ∧ vk = .int k ∧ SqL K H a (ns.map V.int) ∧ ns.length ≤ 63 ∧ 0 ≤ k ∧ k < 64 ∧
  ∀ (d : Addr) (H' : Hp), H d = none → Dk d 0 H' → Same H H' → Q (.ref d) H'
theorem ok_law_pot (T : Txt P K mg) {f : Addr} {fd : FuncData} (F : Fun K "_law_pot" "_law_pot" s_law_pot f fd) : Keeps P w K mg base CX0 1 f fd ["script", "k"] (sp2 (Φ_law_pot K)) := by
  refine keeps0_of F sc_law_pot (fun vs H Q E h => ?_) (fun cdv A outer s H vs Q E hr h => ?_)
  · obtain ⟨_, _, rfl, _⟩ := h
    rfl
  obtain ⟨v_script, v_k, rfl, h⟩ := h
  have hu := hr.hu
  refine ⟨_, (pss_cons (ps_set (i := 2) sc_law_pot.nd rfl (by first | exact Or.inl rfl | exact Or.inr rfl) (pe_op (oAdd (K := K)) (pe_op (oMul (K := K)) pe_int (pv 1)) pe_int))
      (pss_cons (ps_for PassesOwn.never rfl (pi_any (K := K) (pv 0)) (pg_name (i := 3) sc_law_pot.nd rfl (by first | exact Or.inl rfl | exact Or.inr rfl)) (pss_one (ps_set (i := 2) sc_law_pot.nd rfl (by first | exact Or.inl rfl | exact Or.inr rfl) (pe_op oMod (pe_callTy call_intX (by rfl) T.b_int (by decide +kernel) (pa_cons (pe_op (oAdd (K := K)) (pe_op (oMul (K := K)) (pv 2) pe_int) (pe_op oMod (pe_callTy call_intX (by rfl) T.b_int (by decide +kernel) (pa_cons (pv 3) pa_nil)) (pe_op (oAdd (K := K)) (pe_op oPow pe_int pe_int) pe_int))) pa_nil)) (pe_op (oAdd (K := K)) (pe_op oPow pe_int pe_int) pe_int)))))
      (pss_cons (ps_set (i := 4) sc_law_pot.nd rfl (by first | exact Or.inl rfl | exact Or.inr rfl) (pe_ifExp (pt_cmpR oLt (pv 1) (pe_callB (call_lenX (K := K)) (by rfl) T.b_len (by decide +kernel) (pa_cons (pv 0) pa_nil)) (nomark _)) (pe_op oMod (pe_callTy call_intX (by rfl) T.b_int (by decide +kernel) (pa_cons (pe_callB call_abs (by rfl) T.b_abs (by decide +kernel) (pa_cons (pe_callTy call_intX (by rfl) T.b_int (by decide +kernel) (pa_cons (pe_ix (ixX (K := K)) (pv 0) (pv 1) (fun _ _ => rfl)) pa_nil)) pa_nil)) pa_nil)) (pe_op oPow (pe_op oPow pe_int pe_int) pe_int)) pe_int))
      (pss_one (ps_ret (pe_lst (pa_cons (pe_callB (call_maxX rfl) (by rfl) T.b_max (by decide +kernel) (pa_cons pe_int (pa_cons (pe_op oSub (pv 4) (pe_op oPow pe_int pe_int)) pa_nil))) (pa_cons (pv 2) (pa_cons pe_int pa_nil))))))))), ?_⟩
  rw [show start ["script", "k", "total", "number", "cell"] [v_script, v_k] = [some v_script, some v_k, none, none, none] from rfl]
  try dsimp only [cxOf, Cx.nox, Cx.wish]
  obtain ⟨a, ns, k, rfl, rfl, hS, hl, h0, h1, q⟩ := h
  walk_at "rd"
  refine rd_mulI (IntMulOk.of_left (by decide)) ?_
  walk_at "rd"
  refine rd_forL ?_
  walk_at "rd"
  refine rd_itL hS (fun _ σ H1 => H = H1 ∧ ∃ (z : Int) (v : Option V), 0 ≤ z ∧ z < 10 ^ 30 ∧ σ = [some (.ref a), some (.int k), some (.int z), v, none]) ⟨rfl, 31 * k + 17, none, by omega, by omega, rfl⟩ ?_ ?_ ?_
  · rintro i σ H1 _ ⟨rfl, _⟩
    exact hS
  · rintro i x σ H1 hi ⟨rfl, z, v, z0, z1, rfl⟩
    obtain ⟨y, rfl⟩ : ∃ y, x = V.int y := by
      rw [List.getElem?_map] at hi
      cases e : ns[i]? with
      | none => rw [e] at hi; cases hi
      | some y => rw [e] at hi; exact ⟨y, (Option.some.inj hi).symm⟩
    walk_at "rd"
    refine rd_mulI (IntMulOk.of_right (by decide)) ?_
    walk_at "rd"
    refine rd_powI ⟨by decide, by decide⟩ ?_
    walk_at "rd"
    refine rd_modL (by decide) fun u _ _ => ?_
    walk_at "rd"
    refine rd_powI ⟨by decide, by decide⟩ ?_
    walk_at "rd"
    refine rd_modL (by decide) fun t t0 t1 => ?_
    walk_at "rd"
    exact ⟨rfl, t, _, t0, Int.lt_trans t1 (by decide), rfl⟩
  · rintro σ H1 ⟨rfl, z, v, z0, z1, rfl⟩
    walk_at "rd"
    refine rd_lenL hS ?_
    walk_at "rd"
    have fin : ∀ c : Int, 0 ≤ c → tRet (tLst (tCons (tCB xMax (tCons (tC (.int 0)) (tCons (tOp xSub (tVar 4) (tOp xPow (tC (.int 10)) (tC (.int 18)))) tNil))) (tCons (tVar 2) (tCons (tC (.int 0)) tNil)))) { nx := fun x H' => Q V.non H', rt := Q }
        [some (.ref a), some (.int k), some (.int z), v, some (.int c)] H := by
      intro c hc
      walk_at "rd"
      refine rd_powI ⟨by decide, by decide⟩ ?_
      walk_at "rd"
      intro d hd
      exact q d _ hd ⟨_, _, 0, upd_same, by omega, by omega, by omega, by omega, by omega⟩ ((Same.refl H).new hd)
    refine rd_ite (fun hp => ?_) (fun hp => ?_)
    · have hk : k < ns.length := by simpa using hp
      obtain ⟨z2, hz⟩ := atI_int h0 hk
      walk_at "rd"
      refine rd_ixL hS hz ?_
      walk_at "rd"
      refine ⟨_, rfl, ?_⟩
      walk_at "rd"
      refine rd_powI ⟨by decide, by decide⟩ ?_
      walk_at "rd"
      refine rd_powI ⟨by decide, by decide⟩ ?_
      walk_at "rd"
      refine rd_modL (by decide) fun c c0 _ => ?_
      refine rd_gname rfl ?_
      exact fin c c0
    · refine rd_c ?_
      refine rd_gname rfl ?_
      exact fin 0 (Int.le_refl _)
theorem ok_law_draw (T : Txt P K mg) {f : Addr} {fd : FuncData} (F : Fun K "_law_draw" "_law_draw" s_law_draw f fd) : Keeps P w K mg base CX0 1 f fd ["pot", "many"] (sp2 (Φ_law_draw K)) := by
  refine keeps0_of F sc_law_draw (fun vs H Q E h => ?_) (fun cdv A outer s H vs Q E hr h => ?_)
  · obtain ⟨_, _, rfl, _⟩ := h
    rfl
  obtain ⟨v_pot, v_many, rfl, h⟩ := h
  have hu := hr.hu
  refine ⟨_, (pss_cons (ps_if (pt_cmpR oGt (pe_ix (ixX (K := K)) (pv 0) pe_int (fun _ _ => rfl)) pe_int (nomark _)) (pss_cons (ps_set (i := 2) sc_law_draw.nd rfl (by first | exact Or.inl rfl | exact Or.inr rfl) (pe_op oMod (pe_callTy call_intX (by rfl) T.b_int (by decide +kernel) (pa_cons (pe_ix (ixX (K := K)) (pv 0) pe_int (fun _ _ => rfl)) pa_nil)) (pv 1)))
      (pss_cons (ps_asg (pe_op oDiv (pe_ix (ixX (K := K)) (pv 0) pe_int (fun _ _ => rfl)) (pv 1)) (pg_sub (pv 0) pe_int set_list))
      (pss_one (ps_ret (pv 2))))) pss_nil)
      (pss_cons (ps_asg (pe_op (oAdd (K := K)) (pe_ix (ixX (K := K)) (pv 0) pe_int (fun _ _ => rfl)) pe_int) (pg_sub (pv 0) pe_int set_list))
      (pss_cons (ps_set (i := 3) sc_law_draw.nd rfl (by first | exact Or.inl rfl | exact Or.inr rfl) (pe_op oMod (pe_callTy call_intX (by rfl) T.b_int (by decide +kernel) (pa_cons (pe_op (oAdd (K := K)) (pe_op oPow (pe_op (oAdd (K := K)) (pe_ix (ixX (K := K)) (pv 0) pe_int (fun _ _ => rfl)) (pe_op (oMul (K := K)) pe_int (pe_ix (ixX (K := K)) (pv 0) pe_int (fun _ _ => rfl)))) pe_int) (pe_ix (ixX (K := K)) (pv 0) pe_int (fun _ _ => rfl))) pa_nil)) (pe_op (oAdd (K := K)) (pe_op oPow pe_int pe_int) pe_int)))
      (pss_cons (ps_set (i := 3) sc_law_draw.nd rfl (by first | exact Or.inl rfl | exact Or.inr rfl) (pe_op oMod (pe_callTy call_intX (by rfl) T.b_int (by decide +kernel) (pa_cons (pe_op (oAdd (K := K)) (pe_op (oAdd (K := K)) (pe_op (oMul (K := K)) (pv 3) (pv 3)) (pe_ix (ixX (K := K)) (pv 0) pe_int (fun _ _ => rfl))) (pe_op (oMul (K := K)) pe_int (pe_ix (ixX (K := K)) (pv 0) pe_int (fun _ _ => rfl)))) pa_nil)) (pe_op (oAdd (K := K)) (pe_op oPow pe_int pe_int) pe_int)))
      (pss_one (ps_ret (pe_op oMod (pe_callTy call_intX (by rfl) T.b_int (by decide +kernel) (pa_cons (pe_op oDiv (pv 3) pe_int) pa_nil)) (pv 1)))))))), ?_⟩
  rw [show start ["pot", "many", "found", "mixed"] [v_pot, v_many] = [some v_pot, some v_many, none, none] from rfl]
  try dsimp only [cxOf, Cx.nox, Cx.wish]
  obtain ⟨d, n, m, rfl, rfl, hn0, hn1, ⟨x, y, c, hd, hx, hy0, hy1, hc0, hc1⟩, hm, q⟩ := h
  walk_at "rd"
  refine rd_ite (fun hp => ?_) (fun hp => ?_)
  · walk_at "rd"
    refine rd_modI hn0 ?_
    walk_at "rd"
    refine rd_divI (divOk hn0 hn1) ?_
    walk_at "rd"
    refine q _ _ (Int.emod_nonneg _ (by omega)) (Int.emod_lt_of_pos _ hn0) ⟨x / n, y, c, upd_same, Int.ediv_nonneg hx (by omega), hy0, hy1, hc0, by omega⟩ fun a o ne e => ?_
    rw [upd_ne ne]
    exact e
  · walk_at "rd"
    refine rd_mulI (IntMulOk.of_left (by decide)) ?_
    walk_at "rd"
    have b0 : y + 32452843 * (c + 1) < 2 ^ 240 := by
      have : m < 1000000000 := hm
      omega
    refine rd_powI ⟨by decide, ?_⟩ ?_
    · have := bits_lt (n := 240) (by omega) b0 (by decide)
      omega
    walk_at "rd"
    refine rd_powI ⟨by decide, by decide⟩ ?_
    walk_at "rd"
    refine rd_modL (by decide) fun z hz0 hz1 => ?_
    walk_at "rd"
    have hz2 : z < 2 ^ 200 := Int.lt_trans hz1 (by decide)
    refine rd_mulI (CMulW.ok (wide_mul (a := 200) (b := 200) (by omega) (by omega) (by decide) (by decide) (by decide))) ?_
    walk_at "rd"
    refine rd_mulI (IntMulOk.of_left (by decide)) ?_
    walk_at "rd"
    refine rd_powI ⟨by decide, by decide⟩ ?_
    walk_at "rd"
    refine rd_modL (by decide) fun z2 _ _ => ?_
    walk_at "rd"
    refine rd_divI (divOk (by decide) (by decide)) ?_
    walk_at "rd"
    refine rd_modL hn0 fun z3 h30 h31 => ?_
    refine q _ _ h30 h31 ⟨x, y, c + 1, upd_same, hx, hy0, hy1, by omega, by omega⟩ fun a o ne e => ?_
    rw [upd_ne ne]
    exact e
/-- one of a list of small numbers -/
theorem pickN {K : PySem.W.Frag} {p : Addr} {ns : List Nat} {v : Int} {H : Hp} {Q : VK} (h : SqL K H p (ns.map fun n : Nat => V.int (n : Int))) (h0 : 0 ≤ v) (h1 : v < ns.length) (hn : ∀ n ∈ ns, n ≤ 999) (q : ∀ n : Nat, n ≤ 999 → Q (.int n) H) : xIx K (.ref p) (.int v) H Q := by
  refine pick h h0 (by rw [List.length_map]; exact h1) fun x hx => ?_
  obtain ⟨n, hn', rfl⟩ := List.mem_map.mp hx
  exact q n (hn n hn')
def Φ_law_item (K : PySem.W.Frag) (vd vp vg : V) (H : Hp) (Q : VK) : Prop := ∃ (d : Addr) (p g m : Nat), vd = .ref d ∧ vp = .int p ∧ vg = .int g ∧ 1 ≤ p ∧ p ≤ 6 ∧ 1 ≤ g ∧ g ≤ 99 ∧ Dk d m H ∧ m + 6 ≤ LIM ∧
  ∀ (v : V) (x : It) (H' : Hp), Iok p (some x) → Im H' v (slD (some x)) → Dk d (m + 6) H' → Kp d H H' → Q v H'
theorem ok_law_item (T : Txt P K mg) {f : Addr} {fd : FuncData} (F : Fun K "_law_item" "_law_item" s_law_item f fd) : Keeps P w K mg base CX0 2 f fd ["pot", "places", "groups"] (sp3 (Φ_law_item K)) := by
  have c_law_draw := cal (P := P) (w := w) (base := base) T.d_law_draw fun F => ok_law_draw T F
  refine keeps0_of F sc_law_item (fun vs H Q E h => ?_) (fun cdv A outer s H vs Q E hr h => ?_)
  · obtain ⟨_, _, _, rfl, _⟩ := h
    rfl
  obtain ⟨v_pot, v_places, v_groups, rfl, h⟩ := h
  have hu := hr.hu
  refine ⟨_, (pss_cons (ps_if (pt_cmpR (oEq (K := K) hr.u65) (pe_cal c_law_draw (hr.mono (by decide)) (by rfl) pass0 (pa_cons (pv 0) (pa_cons pe_int pa_nil))) pe_int (nomark _)) (pss_one (ps_ret (pe_tup (pa_cons pe_str (pa_cons (pe_cal c_law_draw (hr.mono (by decide)) (by rfl) pass0 (pa_cons (pv 0) (pa_cons (pv 2) pa_nil))) (pa_cons (pe_cal c_law_draw (hr.mono (by decide)) (by rfl) pass0 (pa_cons (pv 0) (pa_cons pe_int pa_nil))) pa_nil)))))) pss_nil)
      (pss_one (ps_ret (pe_tup (pa_cons pe_str (pa_cons (pe_cal c_law_draw (hr.mono (by decide)) (by rfl) pass0 (pa_cons (pv 0) (pa_cons (pv 2) pa_nil))) (pa_cons (pe_cal c_law_draw (hr.mono (by decide)) (by rfl) pass0 (pa_cons (pv 0) (pa_cons (pv 1) pa_nil))) (pa_cons (pe_ix (ixX (K := K)) (pe_lst (pa_cons pe_int (pa_cons pe_int (pa_cons pe_int (pa_cons pe_int pa_nil))))) (pe_cal c_law_draw (hr.mono (by decide)) (by rfl) pass0 (pa_cons (pv 0) (pa_cons pe_int pa_nil))) (fun _ _ => rfl)) pa_nil)))))))), ?_⟩
  rw [show start ["pot", "places", "groups"] [v_pot, v_places, v_groups] = [some v_pot, some v_places, some v_groups] from rfl]
  try dsimp only [cxOf, Cx.nox, Cx.wish]
  obtain ⟨d, p, g, m, rfl, rfl, rfl, hp0, hp1, hg0, hg1, hd, hm, q⟩ := h
  walk_at "rd"
  refine use_draw hd (by omega) (by omega) (by omega) fun a H1 a0 a1 d1 k1 => ?_
  walk_at "rd"
  refine rd_ite (fun _ => ?_) (fun _ => ?_)
  · walk_at "rd"
    refine use_draw d1 (by omega) (by omega) (by omega) fun b H2 b0 b1 d2 k2 => ?_
    obtain ⟨b, rfl⟩ : ∃ k : Nat, b = (k : Int) := ⟨b.toNat, by omega⟩
    walk_at "rd"
    refine use_draw d2 (by omega) (by omega) (by omega) fun c H3 c0 c1 d3 k3 => ?_
    obtain ⟨c, rfl⟩ : ∃ k : Nat, c = (k : Int) := ⟨c.toNat, by omega⟩
    walk_at "rd"
    intro r hr
    exact q _ (.en b c) _ ⟨by omega, by omega⟩ (.mk3 upd_same (.str _) (.int _) (.int _)) ((d3.new hr).mono (by omega)) (((k1.trans k2).trans k3).new hr)
  · walk_at "rd"
    refine use_draw d1 (by omega) (by omega) (by omega) fun b H2 b0 b1 d2 k2 => ?_
    obtain ⟨b, rfl⟩ : ∃ k : Nat, b = (k : Int) := ⟨b.toNat, by omega⟩
    walk_at "rd"
    refine use_draw d2 (by omega) (by omega) (by omega) fun c H3 c0 c1 d3 k3 => ?_
    obtain ⟨c, rfl⟩ : ∃ k : Nat, c = (k : Int) := ⟨c.toNat, by omega⟩
    walk_at "rd"
    intro l hl
    walk_at "rd"
    refine use_draw (d3.new hl) (by omega) (by omega) (by omega) fun e H4 e0 e1 d4 k4 => ?_
    refine pickN (ns := [0, 5, 7, 999]) (SqL.of (k4.at (d3.ne hl))) e0 (by show e < 4; omega) (by decide) fun n hn => ?_
    walk_at "rd"
    intro r hr
    exact q _ (.pu b c n) _ ⟨by omega, by omega, hn⟩ (.mk4 upd_same (.str _) (.int _) (.int _) (.int _)) ((d4.new hr).mono (by omega)) (((((k1.trans k2).trans k3).new hl).trans k4).new hr)
theorem nats_of : ∀ {xs : List V}, (∀ x ∈ xs, ∃ n : Nat, n ≤ 999 ∧ x = .int n) → ∃ vs : List Nat, xs = vs.map (fun n : Nat => V.int (n : Int)) ∧ ∀ v ∈ vs, v ≤ 999
  | [], _ => ⟨[], rfl, fun _ h => nomatch h⟩
  | x :: xs, h => by
    obtain ⟨vs, rfl, h2⟩ := nats_of fun y hy => h y (List.mem_cons_of_mem _ hy)
    obtain ⟨n, hn, rfl⟩ := h x List.mem_cons_self
    exact ⟨n :: vs, rfl, fun v hv => by
      rcases List.mem_cons.mp hv with rfl | hv
      · exact hn
      · exact h2 v hv⟩
theorem im_nats {H : Hp} : ∀ vs : List Nat, ImAll H (vs.map (fun n : Nat => V.int (n : Int))) (vs.map nD)
  | [] => .nil
  | v :: vs => .cons (.int _) (im_nats vs)
def Φ_law_done (K : PySem.W.Frag) (vd v : V) (H : Hp) (Q : VK) : Prop := Φ_written K vd v H Q
theorem ok_law_done (T : Txt P K mg) {f : Addr} {fd : FuncData} (F : Fun K "_law_done" "_law_done" s_law_done f fd) : Keeps P w K mg base CX0 1 f fd ["disk", "writes"] (sp2 (Φ_law_done K)) := by
  refine keeps0_of F sc_law_done (fun vs H Q E h => ?_) (fun cdv A outer s H vs Q E hr h => ?_)
  · obtain ⟨_, _, rfl, _⟩ := h
    rfl
  obtain ⟨v_disk, v_writes, rfl, h⟩ := h
  have hu := hr.hu
  refine ⟨_, (pss_cons (ps_par (i := 2) (j := 3) rfl sc_law_done.nd rfl rfl (by decide) rfl rfl (pa_cons (pe_callTy (callListX (K := K)) (by rfl) T.b_list (by decide +kernel) (pa_cons (pe_ix (ixX (K := K)) (pv 0) pe_int (fun _ _ => rfl)) pa_nil)) (pa_cons (pe_callTy (callListX (K := K)) (by rfl) T.b_list (by decide +kernel) (pa_cons (pe_ix (ixX (K := K)) (pv 0) pe_int (fun _ _ => rfl)) pa_nil)) pa_nil)) (by rfl))
      (pss_cons (ps_for PassesOwn.never rfl (pi_any (K := K) (pv 1)) (pg_seqX (K := K) (n := 3) rfl (pgs_cons (pg_name (i := 4) sc_law_done.nd rfl (by first | exact Or.inl rfl | exact Or.inr rfl)) (pgs_cons (pg_name (i := 5) sc_law_done.nd rfl (by first | exact Or.inl rfl | exact Or.inr rfl)) (pgs_cons (pg_name (i := 6) sc_law_done.nd rfl (by first | exact Or.inl rfl | exact Or.inr rfl)) pgs_nil)))) (pss_one (ps_if (pt_cmpR (oEq (K := K) hr.u65) (pv 4) pe_str (nomark _)) (pss_one (ps_asg (pv 6) (pg_sub (pv 2) (pv 5) set_list))) (pss_one (ps_asg (pv 6) (pg_sub (pv 3) (pv 5) set_list))))))
      (pss_one (ps_ret (pe_tup (pa_cons (pe_callTy (callTupX (K := K)) (by rfl) T.b_tuple (by decide +kernel) (pa_cons (pv 2) pa_nil)) (pa_cons (pe_callTy (callTupX (K := K)) (by rfl) T.b_tuple (by decide +kernel) (pa_cons (pv 3) pa_nil)) pa_nil))))))), ?_⟩
  rw [show start ["disk", "writes", "values", "items", "kind", "place", "what"] [v_disk, v_writes] = [some v_disk, some v_writes, none, none, none, none, none] from rfl]
  try dsimp only [cxOf, Cx.nox, Cx.wish]
  obtain ⟨vs, ss, p, xs, ws, im, rfl, hp, ixs, hw, q⟩ := h
  obtain ⟨t, a, b, rfl, ht, ia, ib⟩ := im.t2
  obtain ⟨ta, as, rfl, ha, ias⟩ := ia.tn
  obtain ⟨tb, bs, rfl, hb, ibs⟩ := ib.tn
  walk_at "rd"
  refine rd_lstT (SqT.of ha) fun l hl => ?_
  have k1 := (Same.refl H).new (o := .lst as) hl
  walk_at "rd"
  refine rd_ixT (SqT.of (k1 _ _ ht)) rfl ?_
  walk_at "rd"
  refine rd_lstT (SqT.of (k1 _ _ hb)) fun l2 hl2 => ?_
  have k2 := k1.new (o := .lst bs) hl2
  have nl : l ≠ l2 := fun e => by rw [← e, upd_same] at hl2; cases hl2
  have hl0 : H l2 = none := by
    cases e : H l2 with
    | none => rfl
    | some o => rw [k1 _ _ e] at hl2; cases hl2
  have lxs : xs.length = ws.length := by rw [ixs.length, List.length_map]
  walk_at "rd"
  refine rd_forV (by with_unfolding_all rfl) (hp.up k2) (fun i σ H' => Same H H' ∧ (∃ as' bs', H' l = some (.lst as') ∧ H' l2 = some (.lst bs') ∧ ImAll H' as' (((ws.take i).foldl wrote (vs, ss)).1.map nD) ∧ ImAll H' bs' (((ws.take i).foldl wrote (vs, ss)).2.map slD)) ∧
    ∃ x y z, σ = [some (.ref t), some (.ref p), some (.ref l), some (.ref l2), x, y, z]) ⟨k2, ⟨as, bs, by rw [upd_ne nl]; exact upd_same, upd_same, ias.up (Tp.of k2), ibs.up (Tp.of k2)⟩, _, _, _, rfl⟩ ?_ ?_ ?_
  · rintro i σ H' ⟨k, _⟩
    exact hp.one k2 k
  · rintro i x σ H1 hx ⟨k, ⟨as1, bs1, e1, e2, ia1, ib1⟩, x1, x2, x3, rfl⟩
    obtain ⟨d, hd, ix⟩ := ixs.getV hx
    rw [List.getElem?_map] at hd
    obtain ⟨y, hy, rfl⟩ := Option.map_eq_some_iff.mp hd
    have ok := hw y (List.mem_of_getElem? hy)
    have grow : ws.take (i + 1) = ws.take i ++ [y] := by rw [List.take_add_one, hy]; rfl
    obtain ⟨lv, ls⟩ := wrote_lens (ws.take i) vs ss
    rw [grow, List.foldl_append, List.foldl_cons, List.foldl_nil]
    generalize (ws.take i).foldl wrote (vs, ss) = st at ia1 ib1 lv ls ⊢
    obtain ⟨vs1, ss1⟩ := st
    have la := ia1.length
    have lb := ib1.length
    rw [List.length_map] at la lb
    cases y with
    | va j v =>
      obtain ⟨u, x', y, z, rfl, hu, ix, iy, iz⟩ := (ix.up (Tp.of k)).t3
      obtain rfl := ix.s
      obtain rfl := iy.i
      obtain rfl := iz.i
      refine rd_gtup (SqT.of hu) rfl ?_
      walk_at "rd"
      refine rd_yesI (decide_eq_true rfl) ?_
      walk_at "rd"
      refine rd_setL e1 (ixN_nat (by show j < as1.length; have := ok.1; simp only at la lv; omega)) ?_
      walk_at "rd"
      have tp := (Tp.refl H1).lst (o := .lst (as1.set j (.int v))) e1
      refine ⟨k.put hl, ⟨_, bs1, upd_same, by rw [upd_ne nl.symm]; exact e2, ?_, ib1.up tp⟩, _, _, _, rfl⟩
      show ImAll _ _ ((vs1.set j v).map nD)
      rw [List.map_set]
      exact ((ia1.set j (.int v)).up tp)
    | sl j x =>
      obtain ⟨u, x', y, z, rfl, hu, ix, iy, iz⟩ := (ix.up (Tp.of k)).t3
      obtain rfl := ix.s
      obtain rfl := iy.i
      refine rd_gtup (SqT.of hu) rfl ?_
      walk_at "rd"
      refine rd_noI (by decide +kernel) ?_
      walk_at "rd"
      refine rd_setL e2 (ixN_nat (by show j < bs1.length; have := ok.1; simp only at lb ls; omega)) ?_
      walk_at "rd"
      have tp := (Tp.refl H1).lst (o := .lst (bs1.set j z)) e2
      refine ⟨k.put hl0, ⟨as1, _, by rw [upd_ne nl]; exact e1, upd_same, ia1.up tp, ?_⟩, _, _, _, rfl⟩
      show ImAll _ _ ((ss1.set j x).map slD)
      rw [List.map_set]
      exact ((ib1.set j iz).up tp)
  · rintro σ H1 ⟨k, ⟨as1, bs1, e1, e2, ia1, ib1⟩, x1, x2, x3, rfl⟩
    rw [lxs, List.take_length] at ia1 ib1
    walk_at "rd"
    refine rd_tupL (SqL.of e1) fun r hr => ?_
    have k3 := (Same.refl H1).new (o := .tup as1) hr
    walk_at "rd"
    refine rd_tupL (SqL.of (k3 _ _ e2)) fun r2 hr2 => ?_
    have k4 := k3.new (o := .tup bs1) hr2
    walk_at "rd"
    intro r3 hr3
    have k5 := k4.new (o := .tup [.ref r, .ref r2]) hr3
    have k45 := (Same.refl _).new (o := .tup [.ref r, .ref r2]) hr3
    have k35 := ((Same.refl _).new (o := .tup bs1) hr2).new (o := .tup [.ref r, .ref r2]) hr3
    exact q _ _ (k.trans k5) (.mk2 upd_same (.tup (k35 _ _ upd_same) (ia1.up (Tp.of k5))) (.tup (k45 _ _ upd_same) (ib1.up (Tp.of k5))))

/-! ### the law's own side: changes, plans, empty disks -/
theorem up_of : ∀ {cs : List (Nat × Nat)}, cs.Pairwise (fun a b => a.1 < b.1) → ∀ q ∈ cs.zip cs.tail, q.1.1 < q.2.1
  | [], _, _, h => nomatch h
  | [_], _, _, h => nomatch h
  | c :: d :: r, h, q, hq => by
    rcases List.mem_cons.mp hq with e | hq
    · rw [e]
      exact (List.pairwise_cons.mp h).1 d List.mem_cons_self
    · exact up_of (List.pairwise_cons.mp h).2 q hq
def Φ_law_changes (K : PySem.W.Frag) (vd vp : V) (H : Hp) (Q : VK) : Prop := ∃ (d : Addr) (p m : Nat), vd = .ref d ∧ vp = .int p ∧ p ≤ 6 ∧ Dk d m H ∧ m + 20 ≤ LIM ∧
  ∀ (v : V) (cs : List (Nat × Nat)) (H' : Hp), Im H' v (chsD cs) → Cok p cs → cs.length ≤ p → Dk d (m + 20) H' → Kp d H H' → Q v H'
theorem ok_law_changes (T : Txt P K mg) {f : Addr} {fd : FuncData} (F : Fun K "_law_changes" "_law_changes" s_law_changes f fd) : Keeps P w K mg base CX0 2 f fd ["pot", "places"] (sp2 (Φ_law_changes K)) := by
  have c_law_draw := cal (P := P) (w := w) (base := base) T.d_law_draw fun F => ok_law_draw T F
  refine keeps0_of F sc_law_changes (fun vs H Q E h => ?_) (fun cdv A outer s H vs Q E hr h => ?_)
  · obtain ⟨_, _, rfl, _⟩ := h
    rfl
  obtain ⟨v_pot, v_places, rfl, h⟩ := h
  have hu := hr.hu
  refine ⟨_, (pss_one (ps_ret (pe_callTy (callTupX (K := K)) (by rfl) T.b_tuple (by decide +kernel) (pa_cons (pe_lc (own := [("place", 2)]) rfl sc_law_changes.nd (pi_range1 (by rfl) T.b_range (pa_cons (pv 1) pa_nil)) (blkOk_by (own := [("place", 2)]) (N := ["pot", "places", "place"]) (sc := defScope s_law_changes) (by decide +kernel)) (fun _ _ _ _ _ => pg_name (i := 2) sc_law_changes.nd rfl (by first | exact Or.inl rfl | exact Or.inr rfl)) (fun _ _ _ _ _ => pts_one (pt_cmpR (oEq (K := K) hr.u65) (pe_cal c_law_draw (hr.mono (by decide)) (by rfl) pass0 (pa_cons (pv 0) (pa_cons pe_int pa_nil))) pe_int (nomark _))) (fun _ _ _ _ _ => (pe_tup (pa_cons (pv 2) (pa_cons (pe_ix (ixX (K := K)) (pe_lst (pa_cons pe_int (pa_cons pe_int (pa_cons pe_int (pa_cons pe_int pa_nil))))) (pe_cal c_law_draw (hr.mono (by decide)) (by rfl) pass0 (pa_cons (pv 0) (pa_cons pe_int pa_nil))) (fun _ _ => rfl)) pa_nil))))) pa_nil)))), ?_⟩
  rw [show start ["pot", "places", "place"] [v_pot, v_places] = [some v_pot, some v_places, none] from rfl]
  try dsimp only [cxOf, Cx.nox, Cx.wish]
  obtain ⟨d, p, m, rfl, rfl, hp, hd, hm, q⟩ := h
  walk_at "rd"
  refine rd_clR (by omega) (by omega) (fun D i H' => Kp d H H' ∧ Dk d (m + 2 * i) H' ∧ ∃ acc cs, H' D = some (.lst acc) ∧ ImAll H' acc (cs.map chD) ∧ (∀ c ∈ cs, c.1 < i ∧ c.2 ≤ 999) ∧ cs.Pairwise (fun a b => a.1 < b.1) ∧ cs.length ≤ i)
    (fun D hD => ⟨(Kp.refl d H).new hD, hd.new hD, [], [], upd_same, .nil, (fun _ h => nomatch h), .nil, Nat.le_refl _⟩) ?_ ?_
  · rintro D i H1 hD hi ⟨k1, d1, acc, cs, ha, ia, hc, pw, lc⟩
    have nD : D ≠ d := (hd.ne hD).symm
    walk_at "rd"
    refine use_draw d1 (by omega) (by omega) (by unfold LIM at *; omega) fun e H2 e0 e1 d2 k2 => ?_
    have k12 := k1.trans k2
    have ha2 := k2 _ _ nD ha
    have ia2 := ia.up (k2.tp d1)
    walk_at "rd"
    refine rd_ite (fun h => ?_) (fun h => ?_)
    · walk_at "rd"
      intro l hl
      walk_at "rd"
      refine use_draw (d2.new hl) (by omega) (by omega) (by unfold LIM at *; omega) fun f H3 f0 f1 d3 k3 => ?_
      refine pickN (ns := [0, 5, 7, 9]) (SqL.of (k3.at (d2.ne hl))) f0 (by show f < 4; omega) (by decide) fun n hn => ?_
      walk_at "rd"
      intro r hr
      have nDl : D ≠ l := ne_of_none ha2 hl
      have ha3 : H3 D = some (.lst acc) := k3 _ _ nD (by rw [upd_ne nDl]; exact ha2)
      have k4 := ((k2.new (o := .lst [.int 0, .int 5, .int 7, .int 9]) hl).trans k3).new (o := .tup [.int (i : Int), .int (n : Int)]) hr
      have k14 := k1.trans k4
      have d4 := d3.new (o := .tup [.int (i : Int), .int (n : Int)]) hr
      have nDr : D ≠ r := ne_of_none ha3 hr
      have la := ia.length
      rw [List.length_map] at la
      refine ⟨acc, by rw [upd_ne nDr]; exact ha3, szLt (by omega), k14.put hD, (d4.put nD.symm).mono (by omega), _, cs ++ [(i, n)], upd_same, ?_, ?_, ?_, by rw [List.length_append]; exact Nat.succ_le_succ lc⟩
      · rw [List.map_append]
        have tp : Tp (upd H3 r (.tup [.int (i : Int), .int (n : Int)])) (upd (upd H3 r (.tup [.int (i : Int), .int (n : Int)])) D (.lst (acc ++ [.ref r]))) := (Tp.refl _).lst (by rw [upd_ne nDr]; exact ha3)
        exact ((ia.up (k4.tp d1)).snoc (.mk2 upd_same (.int _) (.int _))).up tp
      · intro c hc'
        rcases List.mem_append.mp hc' with h | h
        · have := hc c h
          exact ⟨by omega, this.2⟩
        · rw [List.mem_singleton.mp h]
          exact ⟨Nat.lt_succ_self _, hn⟩
      · rw [List.pairwise_append]
        refine ⟨pw, List.pairwise_singleton _ _, fun a ha b hb => ?_⟩
        rw [List.mem_singleton.mp hb]
        exact (hc a ha).1
    · exact ⟨k12, d2.mono (by omega), acc, cs, ha2, ia2, fun c h => ⟨by have := hc c h; omega, (hc c h).2⟩, pw, by omega⟩
  · rintro D H1 hD ⟨k1, d1, acc, cs, ha, ia, hc, pw, lc⟩
    rw [Int.toNat_natCast] at *
    walk_at "rd"
    refine rd_tupL (SqL.of ha) fun r hr => ?_
    have k2 := (Same.refl H1).new (o := .tup acc) hr
    exact q _ cs _ (.tup upd_same (ia.up (Tp.of k2))) ⟨hc, up_of pw, by omega⟩ lc ((d1.same k2).mono (by omega)) (k1.trans (Kp.of k2))
theorem zip_range (cs : List (Nat × Nat)) : (List.range cs.length).map (fun i => (cs.getD i (0, 0), i)) = cs.zipIdx := by
  refine List.ext_getElem (by simp) fun i h1 h2 => ?_
  rw [List.length_map, List.length_range] at h1
  rw [List.getElem_map, List.getElem_range, List.getElem_zipIdx, List.getD_eq_getElem?_getD, List.getElem?_eq_getElem h1]
  simp
def Φ_law_plan_for (K : PySem.W.Frag) (vd vg vc : V) (H : Hp) (Q : VK) : Prop := ∃ (g : Nat) (cs : List (Nat × Nat)) (m k : Nat), vg = .int g ∧ g ≤ 99 ∧ Im H vc (chsD cs) ∧ Cok m cs ∧ m ≤ 6 ∧ k ≤ 8 ∧ cs.length + 1 ≤ k ∧ ∀ u H', Same H H' → Im H' u (planD (planOf g cs)) → Q u H'
theorem ok_law_plan_for (T : Txt P K mg) {f : Addr} {fd : FuncData} (F : Fun K "_law_plan_for" "_law_plan_for" s_law_plan_for f fd) : Keeps P w K mg base CX0 1 f fd ["disk", "group", "changes"] (sp3 (Φ_law_plan_for K)) := by
  refine keeps0_of F sc_law_plan_for (fun vs H Q E h => ?_) (fun cdv A outer s H vs Q E hr h => ?_)
  · obtain ⟨_, _, _, rfl, _⟩ := h
    rfl
  obtain ⟨v_disk, v_group, v_changes, rfl, h⟩ := h
  have hu := hr.hu
  refine ⟨_, (pss_cons (ps_set (i := 3) sc_law_plan_for.nd rfl (by first | exact Or.inl rfl | exact Or.inr rfl) (pe_callB (call_lenX (K := K)) (by rfl) T.b_len (by decide +kernel) (pa_cons (pv 2) pa_nil)))
      (pss_cons (ps_set (i := 4) sc_law_plan_for.nd rfl (by first | exact Or.inl rfl | exact Or.inr rfl) (pe_callTy (callTupX (K := K)) (by rfl) T.b_tuple (by decide +kernel) (pa_cons (pe_lc (own := [("at", 8)]) rfl sc_law_plan_for.nd (pi_range1 (by rfl) T.b_range (pa_cons (pv 3) pa_nil)) (blkOk_by (own := [("at", 8)]) (N := ["disk", "group", "changes", "many", "puts", "ends", "values", "empty", "at", "change", "stage"]) (sc := defScope s_law_plan_for) (by decide +kernel)) (fun _ _ _ _ _ => pg_name (i := 8) sc_law_plan_for.nd rfl (by first | exact Or.inl rfl | exact Or.inr rfl)) (fun _ _ _ _ _ => pts_nil) (fun _ _ _ _ _ => (pe_tup (pa_cons pe_str (pa_cons (pv 8) (pa_cons (pe_op (oAdd (K := K)) (pe_tup (pa_cons pe_str (pa_cons (pv 1) pa_nil))) (pe_ix (ixX (K := K)) (pv 2) (pv 8) (fun _ _ => rfl))) pa_nil)))))) pa_nil)))
      (pss_cons (ps_set (i := 5) sc_law_plan_for.nd rfl (by first | exact Or.inl rfl | exact Or.inr rfl) (pe_tup (pa_cons (pe_tup (pa_cons pe_str (pa_cons (pv 3) (pa_cons (pe_tup (pa_cons pe_str (pa_cons (pv 1) (pa_cons (pv 3) pa_nil)))) pa_nil)))) pa_nil)))
      (pss_cons (ps_set (i := 6) sc_law_plan_for.nd rfl (by first | exact Or.inl rfl | exact Or.inr rfl) (pe_callTy (callTupX (K := K)) (by rfl) T.b_tuple (by decide +kernel) (pa_cons (pe_lc (own := [("change", 9)]) rfl sc_law_plan_for.nd (pi_any (K := K) (pv 2)) (blkOk_by (own := [("change", 9)]) (N := ["disk", "group", "changes", "many", "puts", "ends", "values", "empty", "at", "change", "stage"]) (sc := defScope s_law_plan_for) (by decide +kernel)) (fun _ _ _ _ _ => pg_name (i := 9) sc_law_plan_for.nd rfl (by first | exact Or.inl rfl | exact Or.inr rfl)) (fun _ _ _ _ _ => pts_nil) (fun _ _ _ _ _ => (pe_op (oAdd (K := K)) (pe_tup (pa_cons pe_str pa_nil)) (pv 9)))) pa_nil)))
      (pss_cons (ps_set (i := 7) sc_law_plan_for.nd rfl (by first | exact Or.inl rfl | exact Or.inr rfl) (pe_callTy (callTupX (K := K)) (by rfl) T.b_tuple (by decide +kernel) (pa_cons (pe_lc (own := [("at", 8)]) rfl sc_law_plan_for.nd (pi_range1 (by rfl) T.b_range (pa_cons (pe_op (oAdd (K := K)) (pv 3) pe_int) pa_nil)) (blkOk_by (own := [("at", 8)]) (N := ["disk", "group", "changes", "many", "puts", "ends", "values", "empty", "at", "change", "stage"]) (sc := defScope s_law_plan_for) (by decide +kernel)) (fun _ _ _ _ _ => pg_name (i := 8) sc_law_plan_for.nd rfl (by first | exact Or.inl rfl | exact Or.inr rfl)) (fun _ _ _ _ _ => pts_nil) (fun _ _ _ _ _ => (pe_tup (pa_cons pe_str (pa_cons (pv 8) (pa_cons pe_non pa_nil)))))) pa_nil)))
      (pss_one (ps_ret (pe_callTy (callTupX (K := K)) (by rfl) T.b_tuple (by decide +kernel) (pa_cons (pe_lc (own := [("stage", 10)]) rfl sc_law_plan_for.nd (pi_any (K := K) (pe_tup (pa_cons (pv 4) (pa_cons (pv 5) (pa_cons (pv 6) (pa_cons (pv 7) pa_nil)))))) (blkOk_by (own := [("stage", 10)]) (N := ["disk", "group", "changes", "many", "puts", "ends", "values", "empty", "at", "change", "stage"]) (sc := defScope s_law_plan_for) (by decide +kernel)) (fun _ _ _ _ _ => pg_name (i := 10) sc_law_plan_for.nd rfl (by first | exact Or.inl rfl | exact Or.inr rfl)) (fun _ _ _ _ _ => pts_one (pt_cmpR (oNe (K := K) hr.u65) (pv 10) (pe_tup pa_nil) (nomark _))) (fun _ _ _ _ _ => (pv 10))) pa_nil))))))))), ?_⟩
  rw [show start ["disk", "group", "changes", "many", "puts", "ends", "values", "empty", "at", "change", "stage"] [v_disk, v_group, v_changes] = [some v_disk, some v_group, some v_changes, none, none, none, none, none, none, none, none] from rfl]
  try dsimp only [cxOf, Cx.nox, Cx.wish]
  obtain ⟨g, cs, m, k, rfl, hg, ic, ok, hm, hk, hck, q⟩ := h
  obtain ⟨u, xs, rfl, hu, ixs⟩ := ic.tn
  have lx : xs.length = cs.length := by rw [ixs.length, List.length_map]
  have l6 := ok.l
  walk_at "rd"
  refine rd_lenT (SqT.of hu) ?_
  rw [lx]
  walk_at "rd"
  refine rd_imR (p := fun _ => true) (out := fun i => wrD (putW g (cs.getD i (0, 0), i))) (by omega) (by omega) ?_ ?_
  · rintro D x i H1 N hD hy k1 ix _ hN
    obtain rfl := ix.i
    have hi : i < cs.length := by
      have := List.mem_range.mp hy
      omega
    obtain ⟨vx, hvx⟩ : ∃ vx, xs[i]? = some vx := ⟨xs[i]'(by omega), List.getElem?_eq_getElem (by omega)⟩
    obtain ⟨dd, hdd, ix⟩ := ixs.getV hvx
    rw [List.getElem?_map] at hdd
    obtain ⟨c, hc, rfl⟩ := Option.map_eq_some_iff.mp hdd
    have ec : cs.getD i (0, 0) = c := by rw [List.getD_eq_getElem?_getD, hc]; rfl
    obtain ⟨t3, z1, z2, rfl, h3, i3, i4⟩ := (ix.up (Tp.of k1)).t2
    obtain rfl := i3.i
    obtain rfl := i4.i
    have hN := hN rfl
    dsimp only at hN
    rw [ec] at hN
    walk_at "rd"
    intro p hp
    have k5 := (Same.refl H1).new (o := .tup [.str "put", .int (g : Int)]) hp
    walk_at "rd"
    refine rd_ixT (SqT.of (k5 _ _ (k1 _ _ hu))) (atI_nat hvx) ?_
    refine rd_catT (SqT.of upd_same) (SqT.of (k5 _ _ h3)) (fun z => nomatch z) (fun z => nomatch z) (szOk (show 2 + 2 ≤ 1000000 by decide)) fun r hr => ?_
    have k6 := k5.new (o := .tup [.str "put", .int (g : Int), .int c.1, .int c.2]) hr
    walk_at "rd"
    intro r2 hr2
    have k7 := k6.new (o := .tup [.str "slot", .int (i : Int), .ref r]) hr2
    refine hN _ _ k7 (.mk3 upd_same (.str _) (.int _) ?_)
    refine Im.mk4 (?_) (.str _) (.int _) (.int _) (.int _)
    rw [upd_ne (ne_of_none upd_same hr2)]
    exact upd_same
  · intro D H4 zs hD k4 hz iz
    rw [List.filter_eq_self.mpr (fun _ _ => rfl), Int.toNat_natCast] at iz
    have iz : ImAll H4 zs ((cs.zipIdx.map (putW g)).map wrD) := by
      rw [← zip_range, List.map_map, List.map_map]
      exact iz
    walk_at "rd"
    refine rd_tupL (SqL.of hz) fun r hr => ?_
    have k5 := (Same.refl H4).new (o := .tup zs) hr
    have p1 : (upd H4 r (.tup zs)) r = some (.tup zs) := upd_same
    replace iz := iz.up (Tp.of k5)
    have k15 := k4.trans k5
    generalize upd H4 r (.tup zs) = H9 at p1 iz k15 k5 ⊢
    walk_at "rd"
    intro e1 he1
    walk_at "rd"
    intro e2 he2
    walk_at "rd"
    intro e3 he3
    have m1 := (Same.refl H9).new (o := .tup [.str "end", .int (g : Int), .int (cs.length : Int)]) he1
    have i1 : Im (upd H9 e1 (.tup [.str "end", .int (g : Int), .int (cs.length : Int)])) (.ref e1) (slD (some (.en g cs.length))) := .mk3 upd_same (.str _) (.int _) (.int _)
    generalize upd H9 e1 (.tup [.str "end", .int (g : Int), .int (cs.length : Int)]) = G1 at m1 i1 he2 he3 ⊢
    have m2 := (Same.refl G1).new (o := .tup [.str "slot", .int (cs.length : Int), .ref e1]) he2
    have i2 : Im (upd G1 e2 (.tup [.str "slot", .int (cs.length : Int), .ref e1])) (.ref e2) (wrD (.sl cs.length (some (.en g cs.length)))) := .mk3 upd_same (.str _) (.int _) (i1.up (Tp.of m2))
    generalize upd G1 e2 (.tup [.str "slot", .int (cs.length : Int), .ref e1]) = G2 at m2 i2 he3 ⊢
    have m3 := (Same.refl G2).new (o := .tup [.ref e2]) he3
    have i3 : Im (upd G2 e3 (.tup [.ref e2])) (.ref e3) (stD [.sl cs.length (some (.en g cs.length))]) := .tup upd_same (.cons (i2.up (Tp.of m3)) .nil)
    have m13 := (m1.trans m2).trans m3
    replace k15 := k15.trans m13
    replace p1 := m13 _ _ p1
    replace iz := iz.up (Tp.of m13)
    generalize upd G2 e3 (.tup [.ref e2]) = H5 at i3 m13 k15 p1 iz ⊢
    walk_at "rd"
    refine rd_lcT ?_
    walk_at "rd"
    refine rd_imT (as := cs) (enc := chD) (p := fun _ => true) (out := fun q => wrD (valW q)) (k15 _ _ hu) (ixs.up (Tp.of k15)) (by omega) ?_ ?_
    · rintro D x c H6 N hD hy k6 ix _ hN
      obtain ⟨t3, z1, z2, rfl, h3, i3, i4⟩ := ix.t2
      obtain rfl := i3.i
      obtain rfl := i4.i
      walk_at "rd"
      intro p hp
      have k7 := (Same.refl H6).new (o := .tup [.str "value"]) hp
      walk_at "rd"
      refine rd_catT (SqT.of upd_same) (SqT.of (k7 _ _ h3)) (fun z => nomatch z) (fun z => nomatch z) (szOk (show 1 + 2 ≤ 1000000 by decide)) fun r hr => ?_
      exact hN rfl _ _ (k7.new hr) (.mk3 upd_same (.str _) (.int _) (.int _))
    · intro D H6 zs2 hD k6 hz2 iz2
      rw [List.filter_eq_self.mpr (fun _ _ => rfl)] at iz2
      have iz2 : ImAll H6 zs2 ((cs.map valW).map wrD) := by rw [List.map_map]; exact iz2
      walk_at "rd"
      refine rd_tupL (SqL.of hz2) fun r2 hr2 => ?_
      have k7 := (Same.refl H6).new (o := .tup zs2) hr2
      have p2 : (upd H6 r2 (.tup zs2)) r2 = some (.tup zs2) := upd_same
      replace iz2 := iz2.up (Tp.of k7)
      have p1 := k7 _ _ (k6 _ _ p1)
      replace iz := iz.up (Tp.of (k6.trans k7))
      replace i3 := i3.up (Tp.of (k6.trans k7))
      have k17 := (k15.trans k6).trans k7
      generalize upd H6 r2 (.tup zs2) = H7 at p1 p2 iz iz2 i3 k17 k7 ⊢
      walk_at "rd"
      refine rd_imR (p := fun _ => true) (out := fun i => wrD (clrW i)) (by omega) (by omega) ?_ ?_
      · rintro D x i H8 N hD hy k8 ix _ hN
        obtain rfl := ix.i
        walk_at "rd"
        intro p hp
        exact hN rfl _ _ ((Same.refl _).new hp) (.mk3 upd_same (.str _) (.int _) .non)
      · intro D H8 zs3 hD k8 hz3 iz3
        rw [List.filter_eq_self.mpr (fun _ _ => rfl), show ((cs.length : Int) + 1).toNat = cs.length + 1 by omega] at iz3
        have iz3 : ImAll H8 zs3 (((List.range (cs.length + 1)).map clrW).map wrD) := by rw [List.map_map]; exact iz3
        walk_at "rd"
        refine rd_tupL (SqL.of hz3) fun r3 hr3 => ?_
        have k9 := (Same.refl H8).new (o := .tup zs3) hr3
        have p3 : (upd H8 r3 (.tup zs3)) r3 = some (.tup zs3) := upd_same
        replace iz3 := iz3.up (Tp.of k9)
        have p1 := k9 _ _ (k8 _ _ p1)
        have p2 := k9 _ _ (k8 _ _ p2)
        replace iz := iz.up (Tp.of (k8.trans k9))
        replace iz2 := iz2.up (Tp.of (k8.trans k9))
        replace i3 := i3.up (Tp.of (k8.trans k9))
        have k19 := (k17.trans k8).trans k9
        generalize upd H8 r3 (.tup zs3) = G3 at p1 p2 p3 iz iz2 iz3 i3 k19 k9 ⊢
        walk_at "rd"
        refine rd_lcT ?_
        walk_at "rd"
        intro e4 he4
        have m4 := (Same.refl G3).new (o := .tup [.ref r, .ref e3, .ref r2, .ref r3]) he4
        have p4 : (upd G3 e4 (.tup [.ref r, .ref e3, .ref r2, .ref r3])) e4 = some (.tup [.ref r, .ref e3, .ref r2, .ref r3]) := upd_same
        generalize upd G3 e4 (.tup [.ref r, .ref e3, .ref r2, .ref r3]) = G4 at m4 p4 ⊢
        have all : ImAll G4 [.ref r, .ref e3, .ref r2, .ref r3] ((four g cs).map stD) := .cons (.tup (m4 _ _ p1) (iz.up (Tp.of m4))) (.cons (i3.up (Tp.of m4)) (.cons (.tup (m4 _ _ p2) (iz2.up (Tp.of m4))) (.cons (.tup (m4 _ _ p3) (iz3.up (Tp.of m4))) .nil)))
        have km := k19.trans m4
        refine rd_imT (as := four g cs) (enc := stD) (p := full) (out := stD) p4 all (by show 4 ≤ 1000000; decide) ?_ ?_
        · rintro D x ws H10 N hD hy k10 ix hN0 hN1
          obtain ⟨f1, f2, f3⟩ := four_ok (g := g) ok hck hg ws hy
          walk_at "rd"
          intro n hn
          have n1 := (Same.refl H10).new (o := .tup []) hn
          refine rd_neD (d := stD ws) (e := .tuple []) (ix.up (Tp.of n1)).to (Im.tup upd_same .nil).to ((stD_bd hm hk f1 f2).shaped (by omega)) rfl ?_
          rw [stD_full]
          walk_at "rd"
          refine rd_ite (fun h => ?_) (fun h => ?_)
          · walk_at "rd"
            exact hN1 h _ _ n1 (ix.up (Tp.of n1))
          · exact hN0 h _ n1
        · intro D H10 zs4 hD k10 hz4 iz4
          walk_at "rd"
          refine rd_tupL (SqL.of hz4) fun r4 hr4 => ?_
          have n1 := (Same.refl H10).new (o := .tup zs4) hr4
          exact q _ _ ((km.trans k10).trans n1) (.tup upd_same (iz4.up (Tp.of n1)))
def nons (n : Nat) : List Slt := List.replicate n none
def Φ_law_empty_disk (K : PySem.W.Frag) (vd : V) (H : Hp) (Q : VK) : Prop := ∃ (d : Addr) (m : Nat), vd = .ref d ∧ Dk d m H ∧ m + 40 ≤ LIM ∧
  ∀ (t : Addr) (va vb : V) (vs : List Nat) (n : Nat) (cs : List (Nat × Nat)) (H' : Hp), H' t = some (.tup [va, vb]) → Im H' va (dkD vs (nons n)) → Im H' vb (chsD cs) → Dok vs (nons n) → Cok vs.length cs → cs.length + 1 ≤ n → n ≤ 8 → Dk d (m + 40) H' → Kp d H H' → Q (.ref t) H'
theorem ok_law_empty_disk (T : Txt P K mg) {f : Addr} {fd : FuncData} (F : Fun K "_law_empty_disk" "_law_empty_disk" s_law_empty_disk f fd) : Keeps P w K mg base CX0 3 f fd ["pot"] (sp1 (Φ_law_empty_disk K)) := by
  have c_law_changes := cal (P := P) (w := w) (base := base) T.d_law_changes fun F => ok_law_changes T F
  have c_law_draw := cal (P := P) (w := w) (base := base) T.d_law_draw fun F => ok_law_draw T F
  refine keeps0_of F sc_law_empty_disk (fun vs H Q E h => ?_) (fun cdv A outer s H vs Q E hr h => ?_)
  · obtain ⟨_, rfl, _⟩ := h
    rfl
  obtain ⟨v_pot, rfl, h⟩ := h
  have hu := hr.hu
  refine ⟨_, (pss_cons (ps_set (i := 1) sc_law_empty_disk.nd rfl (by first | exact Or.inl rfl | exact Or.inr rfl) (pe_op (oAdd (K := K)) pe_int (pe_cal c_law_draw (hr.mono (by decide)) (by rfl) pass0 (pa_cons (pv 0) (pa_cons pe_int pa_nil)))))
      (pss_cons (ps_set (i := 2) sc_law_empty_disk.nd rfl (by first | exact Or.inl rfl | exact Or.inr rfl) (pe_callTy (callTupX (K := K)) (by rfl) T.b_tuple (by decide +kernel) (pa_cons (pe_lc (own := [("place", 4)]) rfl sc_law_empty_disk.nd (pi_range1 (by rfl) T.b_range (pa_cons (pv 1) pa_nil)) (blkOk_by (own := [("place", 4)]) (N := ["pot", "places", "values", "changes", "place"]) (sc := defScope s_law_empty_disk) (by decide +kernel)) (fun _ _ _ _ _ => pg_name (i := 4) sc_law_empty_disk.nd rfl (by first | exact Or.inl rfl | exact Or.inr rfl)) (fun _ _ _ _ _ => pts_nil) (fun _ _ _ _ _ => (pe_ix (ixX (K := K)) (pe_lst (pa_cons pe_int (pa_cons pe_int (pa_cons pe_int (pa_cons pe_int (pa_cons pe_int pa_nil)))))) (pe_cal c_law_draw (hr.mono (by decide)) (by rfl) pass0 (pa_cons (pv 0) (pa_cons pe_int pa_nil))) (fun _ _ => rfl)))) pa_nil)))
      (pss_cons (ps_set (i := 3) sc_law_empty_disk.nd rfl (by first | exact Or.inl rfl | exact Or.inr rfl) (pe_cal c_law_changes (hr.mono (by decide)) (by rfl) pass0 (pa_cons (pv 0) (pa_cons (pv 1) pa_nil))))
      (pss_one (ps_ret (pe_tup (pa_cons (pe_tup (pa_cons (pv 2) (pa_cons (pe_op (oMul (K := K)) (pe_tup (pa_cons pe_non pa_nil)) (pe_callB (call_maxX rfl) (by rfl) T.b_max (by decide +kernel) (pa_cons pe_int (pa_cons (pe_op (oAdd (K := K)) (pe_op (oAdd (K := K)) (pe_callB (call_lenX (K := K)) (by rfl) T.b_len (by decide +kernel) (pa_cons (pv 3) pa_nil)) pe_int) (pe_cal c_law_draw (hr.mono (by decide)) (by rfl) pass0 (pa_cons (pv 0) (pa_cons pe_int pa_nil)))) pa_nil)))) pa_nil))) (pa_cons (pv 3) pa_nil)))))))), ?_⟩
  rw [show start ["pot", "places", "values", "changes", "place"] [v_pot] = [some v_pot, none, none, none, none] from rfl]
  try dsimp only [cxOf, Cx.nox, Cx.wish]
  obtain ⟨d, m, rfl, hd, hm, q⟩ := h
  walk_at "rd"
  refine use_draw hd (by omega) (by omega) (by omega) fun a H1 a0 a1 d1 k1 => ?_
  obtain ⟨a, rfl⟩ : ∃ k : Nat, a = (k : Int) := ⟨a.toNat, by omega⟩
  walk_at "rd"
  refine rd_clR (by omega) (by omega) (fun D i H' => Kp d H H' ∧ Dk d (m + 1 + i) H' ∧ ∃ xs, H' D = some (.lst xs) ∧ xs.length = i ∧ ∀ x ∈ xs, ∃ n : Nat, n ≤ 999 ∧ x = .int n)
    (fun D hD => ⟨k1.new hD, d1.new hD, [], upd_same, rfl, fun _ h => nomatch h⟩) ?_ ?_
  · rintro D i H3 hD hi ⟨k3, d3, xs, hx, lx, hxs⟩
    walk_at "rd"
    intro l hl
    walk_at "rd"
    refine use_draw (d3.new hl) (by omega) (by omega) (by omega) fun e H4 e0 e1 d4 k4 => ?_
    refine pickN (ns := [0, 5, 7, 9, 999]) (SqL.of (k4.at (d3.ne hl))) e0 (by show e < 5; omega) (by decide) fun n hn => ?_
    have nD : D ≠ d := (d1.ne hD).symm
    have nDl : D ≠ l := ne_of_none hx hl
    have hx4 : H4 D = some (.lst xs) := k4 _ _ nD (by rw [upd_ne nDl]; exact hx)
    refine ⟨xs, hx4, szLt (by omega), ((k3.new hl).trans k4).put (k1.free nD hD), (d4.put nD.symm).mono (by omega), xs ++ [.int n], upd_same, by rw [List.length_append, lx]; rfl, fun x hx => ?_⟩
    rcases List.mem_append.mp hx with h | h
    · exact hxs x h
    · exact ⟨n, hn, List.mem_singleton.mp h⟩
  rintro D H3 hD ⟨k3, d3, xs, hx, lx, hxs⟩
  obtain ⟨vs, rfl, hvs⟩ := nats_of hxs
  have lv : vs.length = 1 + a := by rw [List.length_map] at lx; omega
  walk_at "rd"
  refine rd_tupL (SqL.of hx) fun r hr => ?_
  have k4 := k3.new (o := .tup (vs.map fun n : Nat => V.int (n : Int))) hr
  have d4 := d3.new (o := .tup (vs.map fun n : Nat => V.int (n : Int))) hr
  have p1 : (upd H3 r (.tup (vs.map fun n : Nat => V.int (n : Int)))) r = some (.tup (vs.map fun n : Nat => V.int (n : Int))) := upd_same
  have rd : r ≠ d := (d3.ne hr).symm
  generalize upd H3 r (.tup (vs.map fun n : Nat => V.int (n : Int))) = H4 at k4 d4 p1 ⊢
  walk_at "rd"
  have ea : (1 : Int) + (a : Int) = ((1 + a : Nat) : Int) := by omega
  rw [ea]
  refine ⟨d, 1 + a, _, rfl, rfl, by omega, d4, by omega, fun v cs H5 ic cok lcs d5 k5 => ?_⟩
  obtain ⟨u, ys, rfl, hu, iys⟩ := ic.tn
  have ly : ys.length = cs.length := by rw [iys.length, List.length_map]
  have p15 := k5 _ _ rd p1
  walk_at "rd"
  intro w0 hw0
  walk_at "rd"
  have n1 := (Same.refl H5).new (o := .tup [.non]) hw0
  refine rd_lenT (SqT.of (n1 _ _ hu)) ?_
  walk_at "rd"
  refine use_draw (d5.new hw0) (by omega) (by omega) (by omega) fun e H6 e0 e1 d6 k6 => ?_
  obtain ⟨e, rfl⟩ : ∃ k : Nat, e = (k : Int) := ⟨e.toNat, by omega⟩
  walk_at "rd"
  have p16 : H6 r = some (.tup (vs.map fun n : Nat => V.int (n : Int))) := k6 _ _ rd (n1 _ _ p15)
  have nu : u ≠ d := fun e => by
    obtain ⟨_, _, _, z, _⟩ := d5
    rw [e, z] at hu
    cases hu
  have hu6 := k6 _ _ nu (n1 _ _ hu)
  have iys6 := iys.up ((Tp.of n1).trans (k6.tp (d5.new hw0)))
  have kall := (k4.trans k5).trans ((Kp.of n1).trans k6)
  have hw6 : H6 w0 = some (.tup [.non]) := k6.at (d5.ne hw0)
  obtain ⟨n, hn, en⟩ : ∃ n : Nat, (n : Int) = max 2 ((ys.length : Int) + 1 + (e : Int)) ∧ cs.length + 1 ≤ n ∧ n ≤ 8 ∧ 2 ≤ n := by
    refine ⟨(max 2 ((ys.length : Int) + 1 + (e : Int))).toNat, ?_⟩
    omega
  rw [← hn]
  refine rd_repT (SqT.of hw6) (fun e => nomatch e) (by omega) (by omega) (by show 1 ≤ 1000; omega) fun l hl => ?_
  have h8 := (Same.refl H6).new (o := .tup (List.replicate ((n : Nat) : Int).toNat [V.non]).flatten) hl
  have l8 : (upd H6 l (.tup (List.replicate ((n : Nat) : Int).toNat [V.non]).flatten)) l = some (.tup (List.replicate n V.non)) := by rw [upd_same, flat_non, Int.toNat_natCast]
  generalize upd H6 l (.tup (List.replicate ((n : Nat) : Int).toNat [V.non]).flatten) = H8 at h8 l8 ⊢
  walk_at "rd"
  intro r2 hr2
  walk_at "rd"
  intro r3 hr3
  have h9 := h8.new (o := .tup [.ref r, .ref l]) hr2
  have h89 := (Same.refl H8).new (o := .tup [.ref r, .ref l]) hr2
  have i2 : Im (upd H8 r2 (.tup [.ref r, .ref l])) (.ref r2) (dkD vs (nons n)) := .mk2 upd_same (.tup (h9 _ _ p16) (im_nats _)) (.tup (h89 _ _ l8) (im_nons _))
  generalize upd H8 r2 (.tup [.ref r, .ref l]) = H9 at h9 i2 hr3 ⊢
  have h10 := (Same.refl H9).new (o := .tup [.ref r2, .ref u]) hr3
  refine q r3 _ _ vs n cs _ upd_same (i2.up (Tp.of h10)) (.tup (h10 _ _ (h9 _ _ hu6)) (iys6.up (Tp.of (h9.trans h10)))) ⟨by omega, by omega, hvs, by show 2 ≤ (List.replicate n none).length; rw [List.length_replicate]; omega, by show (List.replicate n none).length ≤ 8; rw [List.length_replicate]; omega, fun x hx => by rw [(List.mem_replicate.mp hx).2]; exact True.intro⟩ (by rw [lv]; exact cok) en.1 en.2.1 ((d6.same (h9.trans h10)).mono (by omega)) (kall.trans (Kp.of (h9.trans h10)))
def withC (vs : List Nat) (cs : List (Nat × Nat)) : List Nat := cs.foldl (fun vs c => vs.set c.1 c.2) vs
theorem withC_len : ∀ (cs : List (Nat × Nat)) (vs : List Nat), (withC vs cs).length = vs.length
  | [], _ => rfl
  | c :: cs, vs => by
    show (withC (vs.set c.1 c.2) cs).length = _
    rw [withC_len cs, List.length_set]
def Φ_law_with (K : PySem.W.Frag) (va vc : V) (H : Hp) (Q : VK) : Prop := ∃ (a : Addr) (xs : List V) (vs : List Nat) (cs : List (Nat × Nat)), va = .ref a ∧ H a = some (.tup xs) ∧ ImAll H xs (vs.map nD) ∧ Im H vc (chsD cs) ∧ (∀ c ∈ cs, c.1 < vs.length) ∧
  ∀ (u : V) (H' : Hp), Same H H' → Im H' u (.tuple ((withC vs cs).map nD)) → Q u H'
theorem ok_law_with (T : Txt P K mg) {f : Addr} {fd : FuncData} (F : Fun K "_law_with" "_law_with" s_law_with f fd) : Keeps P w K mg base CX0 1 f fd ["values", "changes"] (sp2 (Φ_law_with K)) := by
  refine keeps0_of F sc_law_with (fun vs H Q E h => ?_) (fun cdv A outer s H vs Q E hr h => ?_)
  · obtain ⟨_, _, rfl, _⟩ := h
    rfl
  obtain ⟨v_values, v_changes, rfl, h⟩ := h
  have hu := hr.hu
  refine ⟨_, (pss_cons (ps_set (i := 2) sc_law_with.nd rfl (by first | exact Or.inl rfl | exact Or.inr rfl) (pe_callTy (callListX (K := K)) (by rfl) T.b_list (by decide +kernel) (pa_cons (pv 0) pa_nil)))
      (pss_cons (ps_for PassesOwn.never rfl (pi_any (K := K) (pv 1)) (pg_seqX (K := K) (n := 2) rfl (pgs_cons (pg_name (i := 3) sc_law_with.nd rfl (by first | exact Or.inl rfl | exact Or.inr rfl)) (pgs_cons (pg_name (i := 4) sc_law_with.nd rfl (by first | exact Or.inl rfl | exact Or.inr rfl)) pgs_nil))) (pss_one (ps_asg (pv 4) (pg_sub (pv 2) (pv 3) set_list))))
      (pss_one (ps_ret (pe_callTy (callTupX (K := K)) (by rfl) T.b_tuple (by decide +kernel) (pa_cons (pv 2) pa_nil)))))), ?_⟩
  rw [show start ["values", "changes", "found", "place", "value"] [v_values, v_changes] = [some v_values, some v_changes, none, none, none] from rfl]
  try dsimp only [cxOf, Cx.nox, Cx.wish]
  obtain ⟨a, xs, vs, cs, rfl, ha, ixs, ic, hc, q⟩ := h
  obtain ⟨u, ys, rfl, hu, iys⟩ := ic.tn
  have ly : ys.length = cs.length := by rw [iys.length, List.length_map]
  walk_at "rd"
  refine rd_lstT (SqT.of ha) fun l hl => ?_
  have k1 := (Same.refl H).new (o := .lst xs) hl
  walk_at "rd"
  refine rd_forV (by with_unfolding_all rfl) (.inr (k1 _ _ hu)) (fun i σ H' => Same H H' ∧ (∃ as, H' l = some (.lst as) ∧ ImAll H' as ((withC vs (cs.take i)).map nD)) ∧ ∃ x1 x2, σ = [some (.ref a), some (.ref u), some (.ref l), x1, x2]) ⟨k1, ⟨xs, upd_same, ixs.up (Tp.of k1)⟩, _, _, rfl⟩ ?_ ?_ ?_
  · rintro i σ H' ⟨k, _⟩
    exact LT.one (.inr hu) k1 k
  · rintro i x σ H1 hx ⟨k, ⟨as, e1, ia⟩, x1, x2, rfl⟩
    obtain ⟨d, hd, ix⟩ := iys.getV hx
    rw [List.getElem?_map] at hd
    obtain ⟨c, hcy, rfl⟩ := Option.map_eq_some_iff.mp hd
    have grow : cs.take (i + 1) = cs.take i ++ [c] := by rw [List.take_add_one, hcy]; rfl
    obtain ⟨t3, z1, z2, rfl, h3, i3, i4⟩ := (ix.up (Tp.of k)).t2
    obtain rfl := i3.i
    obtain rfl := i4.i
    have la := ia.length
    rw [List.length_map, withC_len] at la
    refine rd_gtup (SqT.of h3) rfl ?_
    walk_at "rd"
    refine rd_setL e1 (ixN_nat (by have := hc c (List.mem_of_getElem? hcy); omega)) ?_
    walk_at "rd"
    have tp := (Tp.refl H1).lst (o := .lst (as.set c.1 (.int c.2))) e1
    refine ⟨k.put hl, ⟨_, upd_same, ?_⟩, _, _, rfl⟩
    rw [grow]
    unfold withC
    rw [List.foldl_append, List.foldl_cons, List.foldl_nil, List.map_set]
    exact (ia.set c.1 (.int _)).up tp
  · rintro σ H1 ⟨k, ⟨as, e1, ia⟩, x1, x2, rfl⟩
    rw [ly, List.take_length] at ia
    walk_at "rd"
    refine rd_tupL (SqL.of e1) fun r hr => ?_
    have k3 := (Same.refl H1).new (o := .tup as) hr
    exact q _ _ (k.trans k3) (.tup upd_same (ia.up (Tp.of k3)))
def wordP (ss : List Slt) (cs : List (Nat × Nat)) : Str := if ss.any Option.isSome = true then "empty" else if ss.length < cs.length + 1 then "room" else "none"
def Φ_law_caught (K : PySem.W.Frag) (vd vg vc : V) (H : Hp) (Q : VK) : Prop := ∃ (vs : List Nat) (ss : List Slt) (g : Nat) (cs : List (Nat × Nat)), Im H vd (dkD vs ss) ∧ Dok vs ss ∧ vg = .int g ∧ g ≤ 99 ∧ Im H vc (chsD cs) ∧ Cok vs.length cs ∧ ∀ H', Same H H' → Q (.str (wordP ss cs)) H'
theorem ok_law_caught (T : Txt P K mg) {f : Addr} {fd : FuncData} (F : Fun K "_law_caught" "_law_caught" s_law_caught f fd) : Keeps P w K mg base CX0 6 f fd ["disk", "group", "changes"] (sp3 (Φ_law_caught K)) := by
  obtain ⟨C_NotEmpty, e_NotEmpty⟩ := T.e_NotEmpty
  obtain ⟨C_NoRoom, e_NoRoom⟩ := T.e_NoRoom
  obtain ⟨C_WireError, e_WireError⟩ := T.e_WireError
  have c_plan_for := cal (P := P) (w := w) (base := base) T.d_plan_for fun F => ok_plan_for T F
  refine keeps0_of F sc_law_caught (fun vs H Q E h => ?_) (fun cdv A outer s H vs Q E hr h => ?_)
  · obtain ⟨_, _, _, rfl, _⟩ := h
    rfl
  obtain ⟨v_disk, v_group, v_changes, rfl, h⟩ := h
  have hu := hr.hu
  refine ⟨_, (pss_cons (ps_set (i := 3) sc_law_caught.nd rfl (by first | exact Or.inl rfl | exact Or.inr rfl) pe_str)
      (pss_cons (ps_tryM (K := K) rfl rfl takes_none5 rfl (fun W1 pn1 xe1 tk1 po1 => (pss_one (ps_expr (pe_calS c_plan_for (hr.mono (by decide)) (by rfl) (fun σ => passAt tk1 σ) (pa_cons (pv 0) (pa_cons (pv 1) (pa_cons (pv 2) pa_nil))))))) (.cons (names_of e_NotEmpty (by rfl)) (fun _ _ _ _ _ _ _ => (pss_one (ps_set (i := 3) sc_law_caught.nd rfl (by first | exact Or.inl rfl | exact Or.inr rfl) pe_str))) (.cons (names_of e_NoRoom (by rfl)) (fun _ _ _ _ _ _ _ => (pss_one (ps_set (i := 3) sc_law_caught.nd rfl (by first | exact Or.inl rfl | exact Or.inr rfl) pe_str))) (.cons (names_of e_WireError (by rfl)) (fun _ _ _ _ _ _ _ => (pss_one (ps_set (i := 3) sc_law_caught.nd rfl (by first | exact Or.inl rfl | exact Or.inr rfl) pe_str))) .nil))))
      (pss_one (ps_ret (pv 3))))), ?_⟩
  rw [show start ["disk", "group", "changes", "word"] [v_disk, v_group, v_changes] = [some v_disk, some v_group, some v_changes, none] from rfl]
  try dsimp only [cxOf, Cx.nox, Cx.wish]
  obtain ⟨vs, ss, g, cs, im, dok, rfl, hg, ic, ok, q⟩ := h
  walk_at "rd"
  refine ⟨vs, ss, g, cs, im, dok, rfl, hg, ic, ok, fun h C H1 hC k1 => ?_, fun h h2 C H1 hC k1 => ?_, fun h h2 u H1 k1 iu => ?_⟩
  · cases e_NotEmpty.one hC
    refine rd_hitM (e_NotEmpty.m (T.m_NotEmpty_NotEmpty _ _ e_NotEmpty.g e_NotEmpty.g)) fun a ha => ?_
    walk_at "rd"
    have := q H1 k1
    unfold wordP at this
    rw [if_pos h] at this
    exact this
  · cases e_NoRoom.one hC
    refine rd_missM (e_NotEmpty.m (T.m_NoRoom_NotEmpty _ _ e_NoRoom.g e_NotEmpty.g)) ?_
    refine rd_hitM (e_NoRoom.m (T.m_NoRoom_NoRoom _ _ e_NoRoom.g e_NoRoom.g)) fun a ha => ?_
    walk_at "rd"
    have := q H1 k1
    unfold wordP at this
    rw [if_neg (by rw [h]; exact Bool.noConfusion), if_pos h2] at this
    exact this
  · walk_at "rd"
    have := q H1 k1
    unfold wordP at this
    rw [if_neg (by rw [h]; exact Bool.noConfusion), if_neg (by omega)] at this
    exact this

/-! ### what a plan leaves, write by write -/
theorem fold_flat {α β : Type} (f : β → α → β) : ∀ (p : List (List α)) (b : β), p.foldl (fun b s => s.foldl f b) b = p.flatten.foldl f b
  | [], _ => rfl
  | s :: p, b => by rw [List.foldl_cons, fold_flat f p, List.flatten_cons, List.foldl_append]
theorem flat_full : ∀ (p : List (List Wr)), (p.filter full).flatten = p.flatten
  | [] => rfl
  | [] :: p => by
    rw [List.filter_cons_of_neg (by decide), List.flatten_cons, List.nil_append]
    exact flat_full p
  | (w :: s) :: p => by
    rw [List.filter_cons_of_pos (by rfl), List.flatten_cons, List.flatten_cons, flat_full p]
def isVa : Wr → Bool
  | .va _ _ => true
  | _ => false
theorem fold_slots : ∀ (ws : List Wr) (vs : List Nat) (ss : List Slt), (∀ w ∈ ws, isVa w = false) → (ws.foldl wrote (vs, ss)).1 = vs
  | [], _, _, _ => rfl
  | .va i v :: ws, _, _, h => nomatch h _ List.mem_cons_self
  | .sl i x :: ws, vs, ss, h => fold_slots ws vs (ss.set i x) fun w hw => h w (List.mem_cons_of_mem _ hw)
theorem fold_vals : ∀ (cs : List (Nat × Nat)) (vs : List Nat) (ss : List Slt), ((cs.map valW).foldl wrote (vs, ss)) = (withC vs cs, ss)
  | [], _, _ => rfl
  | c :: cs, vs, ss => fold_vals cs (vs.set c.1 c.2) ss
/-- a slot that no write puts stays -/
theorem fold_stays (j : Nat) : ∀ (ws : List Wr) (vs : List Nat) (ss : List Slt), (∀ w ∈ ws, ∀ i x, w = .sl i x → i ≠ j) → (ws.foldl wrote (vs, ss)).2[j]? = ss[j]?
  | [], _, _, _ => rfl
  | .va i v :: ws, vs, ss, h => fold_stays j ws (vs.set i v) ss fun w hw => h w (List.mem_cons_of_mem _ hw)
  | .sl i x :: ws, vs, ss, h => by
    show (ws.foldl wrote (vs, ss.set i x)).2[j]? = _
    rw [fold_stays j ws vs _ fun w hw => h w (List.mem_cons_of_mem _ hw), List.getElem?_set_ne (h _ List.mem_cons_self i x rfl)]
theorem fold_clear (vs : List Nat) (ss : List Slt) : ∀ n : Nat, n ≤ ss.length → (((List.range n).map clrW).foldl wrote (vs, ss)).1 = vs ∧ (((List.range n).map clrW).foldl wrote (vs, ss)).2 = List.replicate n none ++ ss.drop n
  | 0, _ => ⟨rfl, rfl⟩
  | n + 1, h => by
    obtain ⟨a, b⟩ := fold_clear vs ss n (by omega)
    rw [List.range_succ, List.map_append, List.foldl_append]
    generalize ((List.range n).map clrW).foldl wrote (vs, ss) = st at a b
    obtain ⟨v1, s1⟩ := st
    simp only at a b
    subst a b
    refine ⟨rfl, ?_⟩
    show (List.replicate n none ++ ss.drop n).set n none = _
    rw [List.set_append_right _ _ (by rw [List.length_replicate]; exact Nat.le_refl _), List.length_replicate, Nat.sub_self, List.replicate_succ', List.append_assoc]
    congr 1
    rw [← List.getElem_cons_drop (show n < ss.length by omega)]
    rfl
theorem four_flat (g : Nat) (cs : List (Nat × Nat)) : (four g cs).flatten = cs.zipIdx.map (putW g) ++ ([Wr.sl cs.length (some (.en g cs.length))] ++ (cs.map valW ++ ((List.range (cs.length + 1)).map clrW))) := by
  unfold four
  simp only [List.flatten_cons, List.flatten_nil, List.append_nil]
/-- the whole plan, done -/
theorem plan_done {g n : Nat} {cs : List (Nat × Nat)} {vs : List Nat} (h : cs.length + 1 ≤ n) : (planOf g cs).foldl (fun d s => s.foldl wrote d) (vs, nons n) = (withC vs cs, nons n) := by
  rw [fold_flat, show (planOf g cs).flatten = (four g cs).flatten from flat_full _, four_flat, ← List.append_assoc, List.foldl_append, List.foldl_append]
  have h1 := fold_slots (cs.zipIdx.map (putW g) ++ [Wr.sl cs.length (some (.en g cs.length))]) vs (nons n) fun w hw => by
    rcases List.mem_append.mp hw with q | q
    · obtain ⟨c, _, rfl⟩ := List.mem_map.mp q; rfl
    · rw [List.mem_singleton.mp q]; rfl
  have h2 : ∀ j, cs.length < j → ((cs.zipIdx.map (putW g) ++ [Wr.sl cs.length (some (.en g cs.length))]).foldl wrote (vs, nons n)).2[j]? = (nons n)[j]? := fun j hj => fold_stays j _ _ _ fun w hw i x e => by
    rcases List.mem_append.mp hw with q | q
    · obtain ⟨c, hc, rfl⟩ := List.mem_map.mp q
      have := (idx_mem hc).1
      cases e
      omega
    · rw [List.mem_singleton.mp q] at e
      cases e
      omega
  have h3 := (wrote_lens (cs.zipIdx.map (putW g) ++ [Wr.sl cs.length (some (.en g cs.length))]) vs (nons n)).2
  generalize (cs.zipIdx.map (putW g) ++ [Wr.sl cs.length (some (.en g cs.length))]).foldl wrote (vs, nons n) = st at h1 h2 h3 ⊢
  obtain ⟨v1, s1⟩ := st
  simp only at h1 h2 h3
  subst h1
  rw [fold_vals]
  have l : s1.length = n := by rw [h3]; exact List.length_replicate
  obtain ⟨a, b⟩ := fold_clear (withC v1 cs) s1 (cs.length + 1) (by omega)
  generalize ((List.range (cs.length + 1)).map clrW).foldl wrote (withC v1 cs, s1) = st at a b ⊢
  obtain ⟨v2, s2⟩ := st
  simp only at a b
  subst a b
  congr 1
  refine List.ext_getElem? fun j => ?_
  by_cases hj : j < cs.length + 1
  · rw [List.getElem?_append_left (by rw [List.length_replicate]; exact hj)]
    unfold nons
    rw [List.getElem?_replicate, List.getElem?_replicate, if_pos hj, if_pos (by omega)]
  · rw [List.getElem?_append_right (by rw [List.length_replicate]; omega), List.length_replicate, List.getElem?_drop, show cs.length + 1 + (j - (cs.length + 1)) = j by omega]
    exact h2 j (by omega)
theorem withC_le : ∀ {cs : List (Nat × Nat)} {vs : List Nat}, (∀ v ∈ vs, v ≤ 999) → (∀ c ∈ cs, c.2 ≤ 999) → ∀ v ∈ withC vs cs, v ≤ 999
  | [], _, h, _ => h
  | c :: cs, vs, h, k => withC_le (cs := cs) (vs := vs.set c.1 c.2) (fun x hx => by
      rcases List.mem_or_eq_of_mem_set hx with q | q
      · exact h x q
      · rw [q]; exact k c List.mem_cons_self) fun x hx => k x (List.mem_cons_of_mem _ hx)
theorem nons_ok {vs : List Nat} {n : Nat} (h1 : 1 ≤ vs.length) (h6 : vs.length ≤ 6) (hv : ∀ v ∈ vs, v ≤ 999) (h2 : 2 ≤ n) (h8 : n ≤ 8) : Dok vs (nons n) :=
  ⟨h1, h6, hv, by unfold nons; rw [List.length_replicate]; exact h2, by unfold nons; rw [List.length_replicate]; exact h8, fun x hx => by rw [(List.mem_replicate.mp hx).2]; exact True.intro⟩
theorem nons_empty (n : Nat) : (nons n).any Option.isSome = false := by
  rw [List.any_eq_false]
  intro x hx
  rw [(List.mem_replicate.mp hx).2]
  exact Bool.false_ne_true
theorem nons_take (n m : Nat) : (nons n).take m = nons (min m n) := List.take_replicate ..
theorem planD_bd {m k : Nat} (hm : m ≤ 6) (hk : k ≤ 8) {p : List (List Wr)} (h : Pok m k p) : Bd 4 21000 (planD p) :=
  (Bd.tup (k := 3) (w := 2500) fun d hd => by
    obtain ⟨s, hs, rfl⟩ := List.mem_map.mp hd
    exact stD_bd hm hk (h.ok s hs).l8 (h.ok s hs).ok).mono (by omega) (by rw [List.length_map]; have := h.l8; omega)
theorem folds_len (p : List (List Wr)) (vs : List Nat) (ss : List Slt) : (p.foldl (fun d s => s.foldl wrote d) (vs, ss)).1.length = vs.length ∧ (p.foldl (fun d s => s.foldl wrote d) (vs, ss)).2.length = ss.length := by
  rw [fold_flat]
  exact wrote_lens _ _ _
theorem any_put {a b : List Slt} {x : It} : (a ++ some x :: b).any Option.isSome = true := List.any_eq_true.mpr ⟨some x, List.mem_append_right _ List.mem_cons_self, rfl⟩
theorem max2 {c n : Nat} (h : c + 1 ≤ n) (h2 : 2 ≤ n) : (min (max 2 c) n = max 2 c) ∧ 2 ≤ max 2 c := by omega

theorem pickM {K : PySem.W.Frag} {p : Addr} {ns : List Nat} {b : Nat} {v : Int} {H : Hp} {Q : VK} (h : SqL K H p (ns.map fun n : Nat => V.int (n : Int))) (h0 : 0 ≤ v) (h1 : v < ns.length) (hn : ∀ n ∈ ns, n ≤ b) (q : ∀ n : Nat, n ≤ b → Q (.int n) H) : xIx K (.ref p) (.int v) H Q := by
  refine pick h h0 (by rw [List.length_map]; exact h1) fun x hx => ?_
  obtain ⟨n, hn', rfl⟩ := List.mem_map.mp hx
  exact q n (hn n hn')
def Φ_law (K : PySem.W.Frag) (v : V) (H : Hp) (Q : VK) : Prop := ∃ (a : Addr) (ns : List Int), v = .ref a ∧ SqL K H a (ns.map V.int) ∧ ns.length ≤ 63 ∧ ∀ H', Q (.bl true) H'
theorem ok_law (T : Txt P K mg) {f : Addr} {fd : FuncData} (F : Fun K "law" "law" s_law f fd) : Keeps P w K mg base CX0 7 f fd ["script"] (sp1 (Φ_law K)) := by
  have c_law_pot := cal (P := P) (w := w) (base := base) T.d_law_pot fun F => ok_law_pot T F
  have c_law_empty_disk := cal (P := P) (w := w) (base := base) T.d_law_empty_disk fun F => ok_law_empty_disk T F
  have c_law_plan_for := cal (P := P) (w := w) (base := base) T.d_law_plan_for fun F => ok_law_plan_for T F
  have c_law_draw := cal (P := P) (w := w) (base := base) T.d_law_draw fun F => ok_law_draw T F
  have c_plan_for := cal (P := P) (w := w) (base := base) T.d_plan_for fun F => ok_plan_for T F
  have c_law_done := cal (P := P) (w := w) (base := base) T.d_law_done fun F => ok_law_done T F
  have c_law_caught := cal (P := P) (w := w) (base := base) T.d_law_caught fun F => ok_law_caught T F
  have c_is_plan := cal (P := P) (w := w) (base := base) T.d_is_plan fun F => ok_is_plan T F
  have c_recovered := cal (P := P) (w := w) (base := base) T.d_recovered fun F => ok_recovered T F
  have c_law_with := cal (P := P) (w := w) (base := base) T.d_law_with fun F => ok_law_with T F
  have c_law_item := cal (P := P) (w := w) (base := base) T.d_law_item fun F => ok_law_item T F
  refine keeps0_of F sc_law (fun vs H Q E h => ?_) (fun cdv A outer s H vs Q E hr h => ?_)
  · obtain ⟨_, rfl, _⟩ := h
    rfl
  obtain ⟨v_script, rfl, h⟩ := h
  have hu := hr.hu
  refine ⟨_, (pss_cons (ps_for PassesOwn.never rfl (pi_range1 (by rfl) T.b_range (pa_cons (pe_callB (call_maxX rfl) (by rfl) T.b_max (by decide +kernel) (pa_cons pe_int (pa_cons (pe_callB (call_minX rfl) (by rfl) T.b_min (by decide +kernel) (pa_cons pe_int (pa_cons (pe_callB (call_lenX (K := K)) (by rfl) T.b_len (by decide +kernel) (pa_cons (pv 0) pa_nil)) pa_nil))) pa_nil))) pa_nil)) (pg_name (i := 1) sc_law.nd rfl (by first | exact Or.inl rfl | exact Or.inr rfl)) (pss_cons (ps_set (i := 2) sc_law.nd rfl (by first | exact Or.inl rfl | exact Or.inr rfl) (pe_cal c_law_pot (hr.mono (by decide)) (by rfl) pass0 (pa_cons (pv 0) (pa_cons (pv 1) pa_nil))))
      (pss_one (ps_for PassesOwn.never rfl (pi_range1 (by rfl) T.b_range (pa_cons pe_int pa_nil)) (pg_name (i := 3) sc_law.nd rfl (by first | exact Or.inl rfl | exact Or.inr rfl)) (pss_cons (ps_asg (pe_cal c_law_empty_disk (hr.mono (by decide)) (by rfl) pass0 (pa_cons (pv 2) pa_nil)) (pg_seqX (K := K) (n := 2) rfl (pgs_cons (pg_name (i := 4) sc_law.nd rfl (by first | exact Or.inl rfl | exact Or.inr rfl)) (pgs_cons (pg_name (i := 5) sc_law.nd rfl (by first | exact Or.inl rfl | exact Or.inr rfl)) pgs_nil))))
      (pss_cons (ps_set (i := 6) sc_law.nd rfl (by first | exact Or.inl rfl | exact Or.inr rfl) (pe_ix (ixX (K := K)) (pe_lst (pa_cons pe_int (pa_cons pe_int (pa_cons pe_int (pa_cons (pe_cal c_law_draw (hr.mono (by decide)) (by rfl) pass0 (pa_cons (pv 2) (pa_cons pe_int pa_nil))) pa_nil))))) (pe_cal c_law_draw (hr.mono (by decide)) (by rfl) pass0 (pa_cons (pv 2) (pa_cons pe_int pa_nil))) (fun _ _ => rfl)))
      (pss_cons (ps_set (i := 7) sc_law.nd rfl (by first | exact Or.inl rfl | exact Or.inr rfl) (pe_cal c_law_plan_for (hr.mono (by decide)) (by rfl) pass0 (pa_cons (pv 4) (pa_cons (pv 6) (pa_cons (pv 5) pa_nil)))))
      (pss_cons (ps_set (i := 8) sc_law.nd rfl (by first | exact Or.inl rfl | exact Or.inr rfl) (pe_lst (pa_cons (pe_calS c_plan_for (hr.mono (by decide)) (by rfl) (fun σ => passAt takes_none5 σ) (pa_cons (pv 4) (pa_cons (pv 6) (pa_cons (pv 5) pa_nil)))) (pa_cons (pe_calK0S (ks := ["changes", "group", "disk"]) (pm := [2, 1, 0]) c_plan_for (hr.mono (by decide)) (by rfl) (fun _ _ _ _ _ _ us ws h1 h2 => match us, ws, h1, h2 with | [], [_, _, _], _, _ => rfl) (fun σ => passAt takes_none5 σ) (pk_cons (pv 5) (pk_cons (pv 6) (pk_cons (pv 4) pk_nil)))) pa_nil))))
      (pss_cons (ps_if (PW.pt (pw_or (pt_cmpR (oNe (K := K) hr.u65) (pe_callB (call_reprX (K := K) (hr.mono (Nat.zero_le _))) (by rfl) T.b_repr (by decide +kernel) (pa_cons (pv 8) pa_nil)) (pe_callB (call_reprX (K := K) (hr.mono (Nat.zero_le _))) (by rfl) T.b_repr (by decide +kernel) (pa_cons (pe_lst (pa_cons (pv 7) (pa_cons (pv 7) pa_nil))) pa_nil)) (nomark _)) (pw_or1 (pt_cmpR oIsNot (pe_cal c_is_plan (hr.mono (by decide)) (by rfl) pass0 (pa_cons (pv 4) (pa_cons (pv 7) pa_nil))) pe_bl (nomark _))))) (pss_one (ps_ret pe_bl)) pss_nil)
      (pss_cons (ps_set (i := 9) sc_law.nd rfl (by first | exact Or.inl rfl | exact Or.inr rfl) (pv 4))
      (pss_cons (ps_for PassesOwn.never rfl (pi_any (K := K) (pv 7)) (pg_name (i := 10) sc_law.nd rfl (by first | exact Or.inl rfl | exact Or.inr rfl)) (pss_one (ps_set (i := 9) sc_law.nd rfl (by first | exact Or.inl rfl | exact Or.inr rfl) (pe_cal c_law_done (hr.mono (by decide)) (by rfl) pass0 (pa_cons (pv 9) (pa_cons (pv 10) pa_nil))))))
      (pss_cons (ps_if (PW.pt (pw_or (pt_cmpR (oNe (K := K) hr.u65) (pv 9) (pe_tup (pa_cons (pe_cal c_law_with (hr.mono (by decide)) (by rfl) pass0 (pa_cons (pe_ix (ixX (K := K)) (pv 4) pe_int (fun _ _ => rfl)) (pa_cons (pv 5) pa_nil))) (pa_cons (pe_ix (ixX (K := K)) (pv 4) pe_int (fun _ _ => rfl)) pa_nil))) (nomark _)) (pw_or1 (pt_cmpR (oNe (K := K) hr.u65) (pe_cal c_recovered (hr.mono (by decide)) (by rfl) pass0 (pa_cons (pv 9) pa_nil)) (pv 9) (nomark _))))) (pss_one (ps_ret pe_bl)) pss_nil)
      (pss_cons (ps_set (i := 11) sc_law.nd rfl (by first | exact Or.inl rfl | exact Or.inr rfl) (pe_tup (pa_cons (pe_ix (ixX (K := K)) (pv 4) pe_int (fun _ _ => rfl)) (pa_cons (pe_slice (sX (K := K)) (pe_ix (ixX (K := K)) (pv 4) pe_int (fun _ _ => rfl)) po_none (po_some (pe_callB (call_maxX rfl) (by rfl) T.b_max (by decide +kernel) (pa_cons pe_int (pa_cons (pe_callB (call_lenX (K := K)) (by rfl) T.b_len (by decide +kernel) (pa_cons (pv 5) pa_nil)) pa_nil))))) pa_nil))))
      (pss_cons (ps_set (i := 12) sc_law.nd rfl (by first | exact Or.inl rfl | exact Or.inr rfl) (pe_ifExp (pt_cmpR oLt (pe_callB (call_lenX (K := K)) (by rfl) T.b_len (by decide +kernel) (pa_cons (pe_ix (ixX (K := K)) (pv 11) pe_int (fun _ _ => rfl)) pa_nil)) (pe_op (oAdd (K := K)) (pe_callB (call_lenX (K := K)) (by rfl) T.b_len (by decide +kernel) (pa_cons (pv 5) pa_nil)) pe_int) (nomark _)) pe_str pe_str))
      (pss_cons (ps_if (pt_cmpR (oNe (K := K) hr.u65) (pe_cal c_law_caught (hr.mono (by decide)) (by rfl) pass0 (pa_cons (pv 11) (pa_cons (pv 6) (pa_cons (pv 5) pa_nil)))) (pv 12) (nomark _)) (pss_one (ps_ret pe_bl)) pss_nil)
      (pss_cons (ps_set (i := 13) sc_law.nd rfl (by first | exact Or.inl rfl | exact Or.inr rfl) (pe_cal c_law_draw (hr.mono (by decide)) (by rfl) pass0 (pa_cons (pv 2) (pa_cons (pe_callB (call_lenX (K := K)) (by rfl) T.b_len (by decide +kernel) (pa_cons (pe_ix (ixX (K := K)) (pv 11) pe_int (fun _ _ => rfl)) pa_nil)) pa_nil))))
      (pss_cons (ps_set (i := 14) sc_law.nd rfl (by first | exact Or.inl rfl | exact Or.inr rfl) (pe_tup (pa_cons (pe_ix (ixX (K := K)) (pv 11) pe_int (fun _ _ => rfl)) (pa_cons (pe_op (oAdd (K := K)) (pe_op (oAdd (K := K)) (pe_slice (sX (K := K)) (pe_ix (ixX (K := K)) (pv 11) pe_int (fun _ _ => rfl)) po_none (po_some (pv 13))) (pe_tup (pa_cons (pe_cal c_law_item (hr.mono (by decide)) (by rfl) pass0 (pa_cons (pv 2) (pa_cons (pe_callB (call_lenX (K := K)) (by rfl) T.b_len (by decide +kernel) (pa_cons (pe_ix (ixX (K := K)) (pv 4) pe_int (fun _ _ => rfl)) pa_nil)) (pa_cons pe_int pa_nil)))) pa_nil))) (pe_slice (sX (K := K)) (pe_ix (ixX (K := K)) (pv 11) pe_int (fun _ _ => rfl)) (po_some (pe_op (oAdd (K := K)) (pv 13) pe_int)) po_none)) pa_nil))))
      (pss_one (ps_if (pt_cmpR (oNe (K := K) hr.u65) (pe_cal c_law_caught (hr.mono (by decide)) (by rfl) pass0 (pa_cons (pv 14) (pa_cons (pv 6) (pa_cons (pv 5) pa_nil)))) pe_str (nomark _)) (pss_one (ps_ret pe_bl)) pss_nil)))))))))))))))))))
      (pss_one (ps_ret pe_bl))), ?_⟩
  rw [show start ["script", "k", "pot", "turn", "disk", "changes", "group", "due", "told", "left", "stage", "less", "word", "at", "filled"] [v_script] = [some v_script, none, none, none, none, none, none, none, none, none, none, none, none, none, none] from rfl]
  try dsimp only [cxOf, Cx.nox, Cx.wish]
  obtain ⟨a, ns, rfl, hS, hl, q⟩ := h
  walk_at "rd"
  refine rd_lenL hS ?_
  walk_at "rd"
  rw [List.length_map]
  refine rd_itR (by omega) (by omega) (fun i σ H' => Same H H' ∧ ∃ x1 x2 x3 x4 x5 x6 x7 x8 x9 x10 x11 x12 x13 x14, σ = [some (.ref a), x1, x2, x3, x4, x5, x6, x7, x8, x9, x10, x11, x12, x13, x14]) ⟨Same.refl H, _, _, _, _, _, _, _, _, _, _, _, _, _, _, rfl⟩ ?_ ?_
  · rintro i σ H1 hi ⟨k1, x1, x2, x3, x4, x5, x6, x7, x8, x9, x10, x11, x12, x13, x14, rfl⟩
    have hi' : i < 3 := by omega
    walk_at "rd"
    refine ⟨a, ns, i, rfl, rfl, k1.seq hS, hl, by omega, by omega, fun d H2 hd d2 k2 => ?_⟩
    have fin : ∀ H', Kp d H2 H' → Same H H' := fun H' kp b o e => kp _ _ (ne_of_none (k1 _ _ e) hd) (k2 _ _ (k1 _ _ e))
    walk_at "rd"
    refine rd_itR (by decide) (by decide) (fun j σ H' => Kp d H2 H' ∧ Dk d (100 * j) H' ∧ ∃ x3 x4 x5 x6 x7 x8 x9 x10 x11 x12 x13 x14, σ = [some (.ref a), some (.int i), some (.ref d), x3, x4, x5, x6, x7, x8, x9, x10, x11, x12, x13, x14]) ⟨Kp.refl d H2, d2, _, _, _, _, _, _, _, _, _, _, _, _, rfl⟩ ?_ ?_
    · rintro j σ H3 hj ⟨k3, d3, x3, x4, x5, x6, x7, x8, x9, x10, x11, x12, x13, x14, rfl⟩
      have hj' : j < 12 := by omega
      walk_at "rd"
      refine ⟨d, _, rfl, d3, by unfold LIM; omega, fun t va vb vs n cs H4 ht iva ivb dok cok hcn hn8 d4 k4 => ?_⟩
      refine rd_gtup (SqT.of ht) rfl ?_
      walk_at "rd"
      refine use_draw d4 (by omega) (by omega) (by unfold LIM; omega) fun g0 H5 g00 g01 d5 k5 => ?_
      obtain ⟨g0, rfl⟩ : ∃ k : Nat, g0 = (k : Int) := ⟨g0.toNat, by omega⟩
      walk_at "rd"
      intro l hl
      walk_at "rd"
      refine use_draw (d5.new hl) (by omega) (by omega) (by unfold LIM; omega) fun e H6 e0 e1 d6 k6 => ?_
      refine pickM (b := 99) (ns := [0, 1, 99, g0]) (SqL.of (k6.at (d5.ne hl))) e0 (by show e < 4; omega) (fun m hm => by simp only [List.mem_cons, List.not_mem_nil, or_false] at hm; rcases hm with rfl | rfl | rfl | rfl <;> omega) fun g hg => ?_
      have tp6 := (k5.tp d4).trans ((Tp.of ((Same.refl H5).new (o := .lst [.int 0, .int 1, .int 99, .int g0]) hl)).trans (k6.tp (d5.new hl)))
      have k46 : Kp d H4 H6 := (k5.new hl).trans k6
      have iva6 := iva.up tp6
      have ivb6 := ivb.up tp6
      have kk := (k3.trans k4).trans k46
      walk_at "rd"
      refine ⟨g, cs, vs.length, n, rfl, hg, ivb6, cok, dok.v6, hn8, hcn, fun due H7 k7 idue => ?_⟩
      have ln : (nons n).length = n := List.length_replicate
      have pok : Pok vs.length (nons n).length (planOf g cs) := by
        rw [ln]
        exact planOf_ok cok hcn hg
      have bp := planD_bd dok.v6 dok.s8 pok
      have b2 : Bd 5 43000 (.list [planD (planOf g cs), planD (planOf g cs)]) := (Bd.lst (k := 4) (w := 21000) fun d hd => by
        simp only [List.mem_cons, List.not_mem_nil, or_false, or_self] at hd
        rw [hd]
        exact bp).mono (by omega) (by show 2 * 21001 ≤ 43000; omega)
      have sh2 := b2.shows (by omega) (by decide)
      have iva7 := iva6.up (Tp.of k7)
      have ivb7 := ivb6.up (Tp.of k7)
      have noE : ∀ {A : Prop}, (nons n).any Option.isSome = true → A := fun h => by
        rw [nons_empty] at h
        cases h
      have noR : ∀ {A : Prop}, (nons n).length < cs.length + 1 → A := fun h => by
        rw [ln] at h
        exact absurd h (by omega)
      walk_at "rd"
      refine ⟨vs, nons n, g, cs, iva7, dok, rfl, hg, ivb7, cok, fun h => noE h, fun _ h => noR h, fun _ _ u1 H8 k8 iu1 => ?_⟩
      have iva8 := iva7.up (Tp.of k8)
      have ivb8 := ivb7.up (Tp.of k8)
      walk_at "rd"
      refine ⟨rfl, rfl, _, _, _, rfl, vs, nons n, g, cs, iva8, dok, rfl, hg, ivb8, cok, fun h => noE h, fun _ h => noR h, fun _ _ u2 H9 k9 iu2 => ?_⟩
      walk_at "rd"
      intro tl htl
      walk_at "rd"
      have k10 := (Same.refl H9).new (o := .lst [u1, u2]) htl
      refine rd_repr (.lst (SqL.of upd_same) (.cons (iu1.up (Tp.of (k9.trans k10))).to (.cons (iu2.up (Tp.of k10)).to .nil))) sh2 ?_
      walk_at "rd"
      intro tl2 htl2
      walk_at "rd"
      have k11 := k10.new (o := .lst [due, due]) htl2
      have k711 := (k8.trans k9).trans k11
      have idue11 := idue.up (Tp.of k711)
      refine rd_repr (.lst (SqL.of upd_same) (.cons idue11.to (.cons idue11.to .nil))) sh2 ?_
      walk_at "rd"
      rw [decide_eq_true rfl]
      walk_at "rd"
      refine ⟨vs, nons n, planOf g cs, iva7.up (Tp.of k711), idue11, dok, pok, fun H12 k12 => ?_⟩
      have k712 := k711.trans k12
      have iva12 := iva7.up (Tp.of k712)
      have ivb12 := ivb7.up (Tp.of k712)
      have idue12 := idue.up (Tp.of k712)
      have d12 := d6.same (k7.trans k712)
      have kk12 := kk.trans (Kp.of (k7.trans k712))
      clear k711 k12 k712 idue11 k11 k10 htl2 htl iu1 iu2 k9 k8 iva8 ivb8 idue iva7 ivb7 ivb6 iva6 tp6
      obtain ⟨pt, ps, rfl, hp, ips⟩ := idue12.tn
      walk_at "rd"
      refine rd_noI (by rfl) ?_
      walk_at "rd"
      refine rd_forV (by with_unfolding_all rfl) (.inr hp) (fun i' σ H' => Same H12 H' ∧ ∃ v x10 x11 x12 x13 x14, Im H' v (dkD (((planOf g cs).take i').foldl (fun d s => s.foldl wrote d) (vs, nons n)).1 (((planOf g cs).take i').foldl (fun d s => s.foldl wrote d) (vs, nons n)).2) ∧
        σ = [some (.ref a), some (.int i), some (.ref d), some (.int j), some va, some vb, some (.int g), some (.ref pt), some (.ref tl), some v, x10, x11, x12, x13, x14]) ⟨Same.refl _, _, _, _, _, _, _, iva12, rfl⟩ ?_ ?_ ?_
      · rintro i' σ H' ⟨k, _⟩ o e
        exact k _ _ e
      · rintro i' x σ H' hx ⟨k, v, y10, y11, y12, y13, y14, iv, rfl⟩
        obtain ⟨dd, hdd, ix⟩ := ips.getV hx
        rw [List.getElem?_map] at hdd
        obtain ⟨s1, hs1, rfl⟩ := Option.map_eq_some_iff.mp hdd
        have grow : (planOf g cs).take (i' + 1) = (planOf g cs).take i' ++ [s1] := by rw [List.take_add_one, hs1]; rfl
        have lens := folds_len ((planOf g cs).take i') vs (nons n)
        rw [grow, List.foldl_append, List.foldl_cons, List.foldl_nil]
        generalize ((planOf g cs).take i').foldl (fun d s => s.foldl wrote d) (vs, nons n) = st at iv lens ⊢
        obtain ⟨v1, w1⟩ := st
        obtain ⟨q1, zs, rfl, hq1, izs⟩ := (ix.up (Tp.of k)).tn
        walk_at "rd"
        refine ⟨v1, w1, q1, zs, s1, iv, rfl, .inr hq1, izs, fun w hw => ?_, fun u H'' k' iu => ?_⟩
        · simp only at lens
          rw [lens.1, lens.2]
          exact (pok.ok s1 (List.mem_of_getElem? hs1)).ok w hw
        · walk_at "rd"
          exact ⟨k.trans k', _, _, _, _, _, _, iu, rfl⟩
      · rintro σ H' ⟨k, v, y10, y11, y12, y13, y14, iv, rfl⟩
        rw [show ps.length = (planOf g cs).length by rw [ips.length, List.length_map], List.take_length, plan_done hcn] at iv
        obtain ⟨ta, hta⟩ : True ∧ True := ⟨trivial, trivial⟩
        obtain ⟨tA, wa, wb, rfl, htA, iwa, iwb⟩ := iva12.t2
        obtain ⟨tV, xv, rfl, htV, ixv⟩ := iwa.tn
        obtain ⟨tS, xsl, rfl, htS, ixsl⟩ := iwb.tn
        have iv : Im H' v (dkD (withC vs cs) (nons n)) := iv
        have htA' := k _ _ htA
        walk_at "rd"
        refine ⟨tV, xv, vs, cs, rfl, k _ _ htV, ixv.up (Tp.of k), ivb12.up (Tp.of k), fun c hc => (cok.ok c hc).1, fun u H13 k13 iu => ?_⟩
        have htA3 := k13 _ _ htA'
        walk_at "rd"
        intro tt htt
        have k14 := k13.new (o := .tup [u, .ref tS]) htt
        have e14 := (Same.refl H13).new (o := .tup [u, .ref tS]) htt
        have k1214 := k.trans k14
        have wok : Dok (withC vs cs) (nons n) := nons_ok (by rw [withC_len]; exact dok.v1) (by rw [withC_len]; exact dok.v6) (withC_le dok.vv fun c hc => (cok.ok c hc).2) (by have := dok.s2; rw [ln] at this; exact this) hn8
        have sd := (dkD_bd wok).shaped (by omega)
        have iv14 := iv.up (Tp.of k14)
        have it14 : Im (upd H13 tt (.tup [u, .ref tS])) (.ref tt) (dkD (withC vs cs) (nons n)) := .mk2 upd_same (iu.up (Tp.of e14)) (.tup (k1214 _ _ htS) (ixsl.up (Tp.of k1214)))
        refine rd_neD iv14.to it14.to sd sd ?_
        rw [dkD_self]
        walk_at "rd"
        refine ⟨_, _, iv14, wok, fun u3 H15 k15 iu3 => ?_⟩
        rw [show back (withC vs cs) (nons n) = withC vs cs from back_none _ _, ln] at iu3
        have iu3 : Im H15 u3 (dkD (withC vs cs) (nons n)) := iu3
        walk_at "rd"
        refine rd_neD iu3.to (iv14.up (Tp.of k15)).to sd sd ?_
        rw [dkD_self]
        have k15all := k1214.trans k15
        obtain ⟨tC, ys, rfl, htC, iys⟩ := ivb12.tn
        have ly : ys.length = cs.length := by rw [iys.length, List.length_map]
        have htA15 := k15all _ _ htA
        walk_at "rd"
        refine rd_lenT (SqT.of (k15all _ _ htC)) ?_
        walk_at "rd"
        have n2 := dok.s2
        rw [ln] at n2
        obtain ⟨m, hm, hm2, hmn, em⟩ : ∃ m : Nat, (m : Int) = max 2 (ys.length : Int) ∧ 2 ≤ m ∧ m ≤ n ∧ (m < cs.length + 1 ↔ m = cs.length ∧ 2 ≤ cs.length) := ⟨max 2 ys.length, by omega, by omega, by omega, by omega⟩
        rw [← hm]
        refine rd_slTA (k15all _ _ htS) fun r H16 k16 hr _ => ?_
        have k16 : Same H15 H16 := k16
        rw [cutV_take] at hr
        have isl : Im H16 (.ref r) (.tuple ((nons m).map slD)) := by
          refine .tup hr ?_
          have := (ixsl.up (Tp.of (k15all.trans k16))).take m
          rwa [← List.map_take, nons_take, Nat.min_eq_left hmn] at this
        walk_at "rd"
        intro t2 ht2
        have k17 := k16.new (o := .tup [.ref tV, .ref r]) ht2
        have e17 := (Same.refl H16).new (o := .tup [.ref tV, .ref r]) ht2
        have p17 : (upd H16 t2 (.tup [.ref tV, .ref r])) t2 = some (.tup [.ref tV, .ref r]) := upd_same
        have hr17 := e17 _ _ hr
        have isl17 := isl.up (Tp.of e17)
        have k17all := k15all.trans k17
        generalize upd H16 t2 (.tup [.ref tV, .ref r]) = H17 at p17 hr17 isl17 k17all ⊢
        clear k17 e17 isl hr ht2 k16
        have idl : Im H17 (.ref t2) (dkD vs (nons m)) := .mk2 p17 (.tup (k17all _ _ htV) (ixv.up (Tp.of k17all))) isl17
        have lok : Dok vs (nons m) := nons_ok dok.v1 dok.v6 dok.vv hm2 (by omega)
        have lm : (nons m).length = m := List.length_replicate
        have lr : (xsl.take m).length = m := by
          have := isl17.tn
          obtain ⟨_, zs, e, h, iz⟩ := this
          cases e
          rw [hr17] at h
          cases h
          rw [iz.length, List.length_map, lm]
        walk_at "rd"
        refine rd_lenT (SqT.of hr17) ?_
        walk_at "rd"
        refine rd_lenT (SqT.of (k17all _ _ htC)) ?_
        walk_at "rd"
        refine rd_iteS ?_
        have wd : (if decide (((xsl.take m).length : Int) < (ys.length : Int) + 1) = true then ("room" : Str) else "none") = wordP (nons m) cs := by
          have e1 : wordP (nons m) cs = if m < cs.length + 1 then ("room" : Str) else "none" := by
            unfold wordP
            rw [nons_empty, lm]
            rfl
          rw [e1, lr, ly]
          by_cases h : m < cs.length + 1
          · rw [if_pos h, if_pos (decide_eq_true (by omega))]
          · rw [if_neg h, if_neg (by rw [decide_eq_false (by omega)]; exact Bool.noConfusion)]
        rw [wd]
        walk_at "rd"
        have ivc17 := ivb12.up (Tp.of k17all)
        refine ⟨vs, nons m, g, cs, idl, lok, rfl, hg, ivc17, cok, fun H18 k18 => ?_⟩
        walk_at "rd"
        rw [decide_eq_true rfl]
        have k18all := k17all.trans k18
        have p18 := k18 _ _ p17
        have hr18 := k18 _ _ hr17
        have isl18 := isl17.up (Tp.of k18)
        have ivc18 := ivc17.up (Tp.of k18)
        have d18 := d12.same k18all
        have kk18 := kk12.trans (Kp.of k18all)
        walk_at "rd"
        refine rd_lenT (SqT.of hr18) ?_
        rw [lr]
        walk_at "rd"
        refine use_draw d18 (by omega) (by omega) (by unfold LIM; omega) fun e2 H19 e20 e21 d19 k19 => ?_
        obtain ⟨e2, rfl⟩ : ∃ k : Nat, e2 = (k : Int) := ⟨e2.toNat, by omega⟩
        have nt : ∀ {u : Addr} {us : List V} {G : Hp} {c : Nat}, Dk d c G → G u = some (.tup us) → u ≠ d := fun hD h e => by
          obtain ⟨_, _, _, q, _⟩ := hD
          rw [e, q] at h
          cases h
        have tp19 := k19.tp d18
        have p19 := tp19 _ _ p18
        have hr19 := tp19 _ _ hr18
        have isl19 := isl18.up tp19
        have ivc19 := ivc18.up tp19
        have htA19 := tp19 _ _ (k18all _ _ htA)
        have htV19 := tp19 _ _ (k18all _ _ htV)
        have ixv19 := ixv.up ((Tp.of k18all).trans tp19)
        have kk19 := kk18.trans k19
        have lxv : xv.length = vs.length := by rw [ixv.length, List.length_map]
        have l1 := dok.v1
        have l6 := dok.v6
        clear htA htV htS htC hp ips iva12 ixv iwb iv iv14 it14 iu3 iu idl ivc17 ivc18 isl17 isl18 p17 p18 hr17 hr18 htA' htA3 htA15 ixsl iys e14 k13 k14 k15 k18 k1214 k15all k17all k18all idue12 d12 kk12 kk18 bp b2 sh2 pok sd d18 wok
        walk_at "rd"
        refine rd_slTA hr19 fun ra H20 k20 hra _ => ?_
        have k20 : Same H19 H20 := k20
        rw [cutV_take] at hra
        have htA20 := k20 _ _ htA19
        have p20 := k20 _ _ p19
        have d20 := d19.same k20
        walk_at "rd"
        refine rd_lenT (SqT.of (k20 _ _ htV19)) ?_
        walk_at "rd"
        refine ⟨d, xv.length, 3, _, rfl, rfl, rfl, by omega, by omega, by omega, by omega, d20, by unfold LIM; omega, fun vx x H21 xok ivx d21 k21 => ?_⟩
        have tp21 := k21.tp d20
        have p21 := tp21 _ _ p20
        walk_at "rd"
        intro ti hti
        have e22 := (Same.refl H21).new (o := .tup [vx]) hti
        refine rd_catTA (e22 _ _ (tp21 _ _ hra)) upd_same (szOk (by rw [List.length_take]; show min e2 (xsl.take m).length + 1 ≤ 1000000; omega)) fun rb H23 k23 hrb _ => ?_
        have k23 : Same _ H23 := k23
        have kk23 := e22.trans k23
        have p23 := kk23 _ _ p21
        walk_at "rd"
        rw [show ((e2 : Int) + 1) = ((e2 + 1 : Nat) : Int) from rfl]
        refine rd_slTA (kk23 _ _ (tp21 _ _ (k20 _ _ hr19))) fun rc H24 k24 hrc _ => ?_
        have k24 : Same H23 H24 := k24
        rw [cutV_drop] at hrc
        refine rd_catTA (k24 _ _ hrb) hrc (szOk (by rw [List.length_append, List.length_take, List.length_drop]; show min e2 (xsl.take m).length + 1 + ((xsl.take m).length - (e2 + 1)) ≤ 1000000; omega)) fun rd' H25 k25 hrd _ => ?_
        have k25 : Same H24 H25 := k25
        have kk25 := (kk23.trans k24).trans k25
        have tp25 := ((Tp.of k20).trans tp21).trans (Tp.of kk25)
        have p25 := kk25 _ _ p21
        walk_at "rd"
        intro tf htf
        have e26 := (Same.refl H25).new (o := .tup [.ref tV, .ref rd']) htf
        have tp26 := tp25.trans (Tp.of e26)
        walk_at "rd"
        have isl25 : ImAll H25 (xsl.take m) ((nons m).map slD) := by
          obtain ⟨_, zs, e, h, iz⟩ := isl19.tn
          cases e
          rw [hr19] at h
          cases h
          exact iz.up tp25
        have iss : ImAll H25 ((xsl.take m).take e2 ++ [vx] ++ (xsl.take m).drop (e2 + 1)) (((nons m).take e2 ++ some x :: (nons m).drop (e2 + 1)).map slD) := by
          rw [List.map_append, List.map_cons, List.append_assoc, List.map_take, List.map_drop]
          exact (isl25.take e2).append (.cons (ivx.up (Tp.of kk25)) (isl25.drop (e2 + 1)))
        have em : e2 < m := by omega
        have fok : Dok vs ((nons m).take e2 ++ some x :: (nons m).drop (e2 + 1)) := by
          have ll : ((nons m).take e2 ++ some x :: (nons m).drop (e2 + 1)).length = m := by
            rw [List.length_append, List.length_cons, List.length_take, List.length_drop, lm]
            omega
          refine ⟨lok.v1, lok.v6, lok.vv, by rw [ll]; exact hm2, by rw [ll]; omega, fun y hy => ?_⟩
          rcases List.mem_append.mp hy with h | h
          · exact lok.it y (List.mem_of_mem_take h)
          · rcases List.mem_cons.mp h with rfl | h
            · rw [← lxv]; exact xok
            · exact lok.it y (List.mem_of_mem_drop h)
        refine ⟨vs, _, g, cs, .mk2 upd_same (.tup (tp26 _ _ htV19) (ixv19.up tp26)) (.tup (e26 _ _ hrd) (iss.up (Tp.of e26))), fok, rfl, hg, ivc19.up tp26, cok, fun H27 k27 => ?_⟩
        rw [show wordP ((nons m).take e2 ++ some x :: (nons m).drop (e2 + 1)) cs = "empty" by unfold wordP; rw [any_put]; rfl]
        walk_at "rd"
        rw [decide_eq_true rfl]
        walk_at "rd"
        have k27all := (kk25.trans e26).trans k27
        exact ⟨((kk19.trans (Kp.of k20)).trans k21).trans (Kp.of k27all), (d21.same k27all).mono (by omega), _, _, _, _, _, _, _, _, _, _, _, _, rfl⟩
    · rintro σ H3 ⟨k3, d3, x3, x4, x5, x6, x7, x8, x9, x10, x11, x12, x13, x14, rfl⟩
      exact ⟨fin _ k3, _, _, _, _, _, _, _, _, _, _, _, _, _, _, rfl⟩
  · rintro σ H1 ⟨k1, x1, x2, x3, x4, x5, x6, x7, x8, x9, x10, x11, x12, x13, x14, rfl⟩
    walk_at "rd"
    exact q H1
end
/-- the facts of the top -/
theorem all_mk {P : Program} {K : PySem.W.Frag} {h : Heap} {mg : Str → Option Value} (X : K.In h) (G : h.Ns mainGlobals mg)
    {u_MOST_VALUES u_LEAST_SLOTS u_MOST_SLOTS u_MOST_VALUE u_MOST_GROUP u_MOST_STAGES u_MOST_WRITES : Value}
    (h_MOST_VALUES : PySem.W.nsIn K mainGlobals "MOST_VALUES" = some (some u_MOST_VALUES)) (r_MOST_VALUES : RelV (.int 6) u_MOST_VALUES)
    (h_LEAST_SLOTS : PySem.W.nsIn K mainGlobals "LEAST_SLOTS" = some (some u_LEAST_SLOTS)) (r_LEAST_SLOTS : RelV (.int 2) u_LEAST_SLOTS)
    (h_MOST_SLOTS : PySem.W.nsIn K mainGlobals "MOST_SLOTS" = some (some u_MOST_SLOTS)) (r_MOST_SLOTS : RelV (.int 8) u_MOST_SLOTS)
    (h_MOST_VALUE : PySem.W.nsIn K mainGlobals "MOST_VALUE" = some (some u_MOST_VALUE)) (r_MOST_VALUE : RelV (.int 999) u_MOST_VALUE)
    (h_MOST_GROUP : PySem.W.nsIn K mainGlobals "MOST_GROUP" = some (some u_MOST_GROUP)) (r_MOST_GROUP : RelV (.int 99) u_MOST_GROUP)
    (h_MOST_STAGES : PySem.W.nsIn K mainGlobals "MOST_STAGES" = some (some u_MOST_STAGES)) (r_MOST_STAGES : RelV (.int 8) u_MOST_STAGES)
    (h_MOST_WRITES : PySem.W.nsIn K mainGlobals "MOST_WRITES" = some (some u_MOST_WRITES)) (r_MOST_WRITES : RelV (.int 8) u_MOST_WRITES)
    {f_is_from : Addr} {od_is_from an_is_from : Option Addr} {sl_is_from : Array (Option Value)} {oc_is_from kV_is_from dc_is_from pm_is_from cd_is_from ct_is_from : Value}
    (a_is_from : PySem.W.nsIn K mainGlobals "is_from" = some (some (.ref f_is_from))) (l_is_from : K.lookup f_is_from = some ⟨oc_is_from, od_is_from, .func (PySem.W.fnOf "is_from" "is_from" (defArgs s_is_from) (defBody s_is_from) (defScope s_is_from) .none kV_is_from dc_is_from pm_is_from an_is_from cd_is_from ct_is_from), sl_is_from⟩) (c_is_from : PySem.W.codeIn K cd_is_from "is_from" = true) (k_is_from : PySem.W.keepIn K (.ref f_is_from) = true)
    {f_is_tuple : Addr} {od_is_tuple an_is_tuple : Option Addr} {sl_is_tuple : Array (Option Value)} {oc_is_tuple kV_is_tuple dc_is_tuple pm_is_tuple cd_is_tuple ct_is_tuple : Value}
    (a_is_tuple : PySem.W.nsIn K mainGlobals "is_tuple" = some (some (.ref f_is_tuple))) (l_is_tuple : K.lookup f_is_tuple = some ⟨oc_is_tuple, od_is_tuple, .func (PySem.W.fnOf "is_tuple" "is_tuple" (defArgs s_is_tuple) (defBody s_is_tuple) (defScope s_is_tuple) .none kV_is_tuple dc_is_tuple pm_is_tuple an_is_tuple cd_is_tuple ct_is_tuple), sl_is_tuple⟩) (c_is_tuple : PySem.W.codeIn K cd_is_tuple "is_tuple" = true) (k_is_tuple : PySem.W.keepIn K (.ref f_is_tuple) = true)
    {f_is_item : Addr} {od_is_item an_is_item : Option Addr} {sl_is_item : Array (Option Value)} {oc_is_item kV_is_item dc_is_item pm_is_item cd_is_item ct_is_item : Value}
    (a_is_item : PySem.W.nsIn K mainGlobals "is_item" = some (some (.ref f_is_item))) (l_is_item : K.lookup f_is_item = some ⟨oc_is_item, od_is_item, .func (PySem.W.fnOf "is_item" "is_item" (defArgs s_is_item) (defBody s_is_item) (defScope s_is_item) .none kV_is_item dc_is_item pm_is_item an_is_item cd_is_item ct_is_item), sl_is_item⟩) (c_is_item : PySem.W.codeIn K cd_is_item "is_item" = true) (k_is_item : PySem.W.keepIn K (.ref f_is_item) = true)
    {f_is_a_disk : Addr} {od_is_a_disk an_is_a_disk : Option Addr} {sl_is_a_disk : Array (Option Value)} {oc_is_a_disk kV_is_a_disk dc_is_a_disk pm_is_a_disk cd_is_a_disk ct_is_a_disk : Value}
    (a_is_a_disk : PySem.W.nsIn K mainGlobals "is_a_disk" = some (some (.ref f_is_a_disk))) (l_is_a_disk : K.lookup f_is_a_disk = some ⟨oc_is_a_disk, od_is_a_disk, .func (PySem.W.fnOf "is_a_disk" "is_a_disk" (defArgs s_is_a_disk) (defBody s_is_a_disk) (defScope s_is_a_disk) .none kV_is_a_disk dc_is_a_disk pm_is_a_disk an_is_a_disk cd_is_a_disk ct_is_a_disk), sl_is_a_disk⟩) (c_is_a_disk : PySem.W.codeIn K cd_is_a_disk "is_a_disk" = true) (k_is_a_disk : PySem.W.keepIn K (.ref f_is_a_disk) = true)
    {f_is_write : Addr} {od_is_write an_is_write : Option Addr} {sl_is_write : Array (Option Value)} {oc_is_write kV_is_write dc_is_write pm_is_write cd_is_write ct_is_write : Value}
    (a_is_write : PySem.W.nsIn K mainGlobals "is_write" = some (some (.ref f_is_write))) (l_is_write : K.lookup f_is_write = some ⟨oc_is_write, od_is_write, .func (PySem.W.fnOf "is_write" "is_write" (defArgs s_is_write) (defBody s_is_write) (defScope s_is_write) .none kV_is_write dc_is_write pm_is_write an_is_write cd_is_write ct_is_write), sl_is_write⟩) (c_is_write : PySem.W.codeIn K cd_is_write "is_write" = true) (k_is_write : PySem.W.keepIn K (.ref f_is_write) = true)
    {f_is_stage : Addr} {od_is_stage an_is_stage : Option Addr} {sl_is_stage : Array (Option Value)} {oc_is_stage kV_is_stage dc_is_stage pm_is_stage cd_is_stage ct_is_stage : Value}
    (a_is_stage : PySem.W.nsIn K mainGlobals "is_stage" = some (some (.ref f_is_stage))) (l_is_stage : K.lookup f_is_stage = some ⟨oc_is_stage, od_is_stage, .func (PySem.W.fnOf "is_stage" "is_stage" (defArgs s_is_stage) (defBody s_is_stage) (defScope s_is_stage) .none kV_is_stage dc_is_stage pm_is_stage an_is_stage cd_is_stage ct_is_stage), sl_is_stage⟩) (c_is_stage : PySem.W.codeIn K cd_is_stage "is_stage" = true) (k_is_stage : PySem.W.keepIn K (.ref f_is_stage) = true)
    {f_is_a_plan : Addr} {od_is_a_plan an_is_a_plan : Option Addr} {sl_is_a_plan : Array (Option Value)} {oc_is_a_plan kV_is_a_plan dc_is_a_plan pm_is_a_plan cd_is_a_plan ct_is_a_plan : Value}
    (a_is_a_plan : PySem.W.nsIn K mainGlobals "is_a_plan" = some (some (.ref f_is_a_plan))) (l_is_a_plan : K.lookup f_is_a_plan = some ⟨oc_is_a_plan, od_is_a_plan, .func (PySem.W.fnOf "is_a_plan" "is_a_plan" (defArgs s_is_a_plan) (defBody s_is_a_plan) (defScope s_is_a_plan) .none kV_is_a_plan dc_is_a_plan pm_is_a_plan an_is_a_plan cd_is_a_plan ct_is_a_plan), sl_is_a_plan⟩) (c_is_a_plan : PySem.W.codeIn K cd_is_a_plan "is_a_plan" = true) (k_is_a_plan : PySem.W.keepIn K (.ref f_is_a_plan) = true)
    {f_are_changes : Addr} {od_are_changes an_are_changes : Option Addr} {sl_are_changes : Array (Option Value)} {oc_are_changes kV_are_changes dc_are_changes pm_are_changes cd_are_changes ct_are_changes : Value}
    (a_are_changes : PySem.W.nsIn K mainGlobals "are_changes" = some (some (.ref f_are_changes))) (l_are_changes : K.lookup f_are_changes = some ⟨oc_are_changes, od_are_changes, .func (PySem.W.fnOf "are_changes" "are_changes" (defArgs s_are_changes) (defBody s_are_changes) (defScope s_are_changes) .none kV_are_changes dc_are_changes pm_are_changes an_are_changes cd_are_changes ct_are_changes), sl_are_changes⟩) (c_are_changes : PySem.W.codeIn K cd_are_changes "are_changes" = true) (k_are_changes : PySem.W.keepIn K (.ref f_are_changes) = true)
    {f_need_disk : Addr} {od_need_disk an_need_disk : Option Addr} {sl_need_disk : Array (Option Value)} {oc_need_disk kV_need_disk dc_need_disk pm_need_disk cd_need_disk ct_need_disk : Value}
    (a_need_disk : PySem.W.nsIn K mainGlobals "need_disk" = some (some (.ref f_need_disk))) (l_need_disk : K.lookup f_need_disk = some ⟨oc_need_disk, od_need_disk, .func (PySem.W.fnOf "need_disk" "need_disk" (defArgs s_need_disk) (defBody s_need_disk) (defScope s_need_disk) .none kV_need_disk dc_need_disk pm_need_disk an_need_disk cd_need_disk ct_need_disk), sl_need_disk⟩) (c_need_disk : PySem.W.codeIn K cd_need_disk "need_disk" = true) (k_need_disk : PySem.W.keepIn K (.ref f_need_disk) = true)
    {f_need_group : Addr} {od_need_group an_need_group : Option Addr} {sl_need_group : Array (Option Value)} {oc_need_group kV_need_group dc_need_group pm_need_group cd_need_group ct_need_group : Value}
    (a_need_group : PySem.W.nsIn K mainGlobals "need_group" = some (some (.ref f_need_group))) (l_need_group : K.lookup f_need_group = some ⟨oc_need_group, od_need_group, .func (PySem.W.fnOf "need_group" "need_group" (defArgs s_need_group) (defBody s_need_group) (defScope s_need_group) .none kV_need_group dc_need_group pm_need_group an_need_group cd_need_group ct_need_group), sl_need_group⟩) (c_need_group : PySem.W.codeIn K cd_need_group "need_group" = true) (k_need_group : PySem.W.keepIn K (.ref f_need_group) = true)
    {f_need_changes : Addr} {od_need_changes an_need_changes : Option Addr} {sl_need_changes : Array (Option Value)} {oc_need_changes kV_need_changes dc_need_changes pm_need_changes cd_need_changes ct_need_changes : Value}
    (a_need_changes : PySem.W.nsIn K mainGlobals "need_changes" = some (some (.ref f_need_changes))) (l_need_changes : K.lookup f_need_changes = some ⟨oc_need_changes, od_need_changes, .func (PySem.W.fnOf "need_changes" "need_changes" (defArgs s_need_changes) (defBody s_need_changes) (defScope s_need_changes) .none kV_need_changes dc_need_changes pm_need_changes an_need_changes cd_need_changes ct_need_changes), sl_need_changes⟩) (c_need_changes : PySem.W.codeIn K cd_need_changes "need_changes" = true) (k_need_changes : PySem.W.keepIn K (.ref f_need_changes) = true)
    {f_puts_of : Addr} {od_puts_of an_puts_of : Option Addr} {sl_puts_of : Array (Option Value)} {oc_puts_of kV_puts_of dc_puts_of pm_puts_of cd_puts_of ct_puts_of : Value}
    (a_puts_of : PySem.W.nsIn K mainGlobals "puts_of" = some (some (.ref f_puts_of))) (l_puts_of : K.lookup f_puts_of = some ⟨oc_puts_of, od_puts_of, .func (PySem.W.fnOf "puts_of" "puts_of" (defArgs s_puts_of) (defBody s_puts_of) (defScope s_puts_of) .none kV_puts_of dc_puts_of pm_puts_of an_puts_of cd_puts_of ct_puts_of), sl_puts_of⟩) (c_puts_of : PySem.W.codeIn K cd_puts_of "puts_of" = true) (k_puts_of : PySem.W.keepIn K (.ref f_puts_of) = true)
    {f_is_whole : Addr} {od_is_whole an_is_whole : Option Addr} {sl_is_whole : Array (Option Value)} {oc_is_whole kV_is_whole dc_is_whole pm_is_whole cd_is_whole ct_is_whole : Value}
    (a_is_whole : PySem.W.nsIn K mainGlobals "is_whole" = some (some (.ref f_is_whole))) (l_is_whole : K.lookup f_is_whole = some ⟨oc_is_whole, od_is_whole, .func (PySem.W.fnOf "is_whole" "is_whole" (defArgs s_is_whole) (defBody s_is_whole) (defScope s_is_whole) .none kV_is_whole dc_is_whole pm_is_whole an_is_whole cd_is_whole ct_is_whole), sl_is_whole⟩) (c_is_whole : PySem.W.codeIn K cd_is_whole "is_whole" = true) (k_is_whole : PySem.W.keepIn K (.ref f_is_whole) = true)
    {f_group_put : Addr} {od_group_put an_group_put : Option Addr} {sl_group_put : Array (Option Value)} {oc_group_put kV_group_put dc_group_put pm_group_put cd_group_put ct_group_put : Value}
    (a_group_put : PySem.W.nsIn K mainGlobals "group_put" = some (some (.ref f_group_put))) (l_group_put : K.lookup f_group_put = some ⟨oc_group_put, od_group_put, .func (PySem.W.fnOf "group_put" "group_put" (defArgs s_group_put) (defBody s_group_put) (defScope s_group_put) .none kV_group_put dc_group_put pm_group_put an_group_put cd_group_put ct_group_put), sl_group_put⟩) (c_group_put : PySem.W.codeIn K cd_group_put "group_put" = true) (k_group_put : PySem.W.keepIn K (.ref f_group_put) = true)
    {f_with_changes : Addr} {od_with_changes an_with_changes : Option Addr} {sl_with_changes : Array (Option Value)} {oc_with_changes kV_with_changes dc_with_changes pm_with_changes cd_with_changes ct_with_changes : Value}
    (a_with_changes : PySem.W.nsIn K mainGlobals "with_changes" = some (some (.ref f_with_changes))) (l_with_changes : K.lookup f_with_changes = some ⟨oc_with_changes, od_with_changes, .func (PySem.W.fnOf "with_changes" "with_changes" (defArgs s_with_changes) (defBody s_with_changes) (defScope s_with_changes) .none kV_with_changes dc_with_changes pm_with_changes an_with_changes cd_with_changes ct_with_changes), sl_with_changes⟩) (c_with_changes : PySem.W.codeIn K cd_with_changes "with_changes" = true) (k_with_changes : PySem.W.keepIn K (.ref f_with_changes) = true)
    {f_put_back : Addr} {od_put_back an_put_back : Option Addr} {sl_put_back : Array (Option Value)} {oc_put_back kV_put_back dc_put_back pm_put_back cd_put_back ct_put_back : Value}
    (a_put_back : PySem.W.nsIn K mainGlobals "put_back" = some (some (.ref f_put_back))) (l_put_back : K.lookup f_put_back = some ⟨oc_put_back, od_put_back, .func (PySem.W.fnOf "put_back" "put_back" (defArgs s_put_back) (defBody s_put_back) (defScope s_put_back) .none kV_put_back dc_put_back pm_put_back an_put_back cd_put_back ct_put_back), sl_put_back⟩) (c_put_back : PySem.W.codeIn K cd_put_back "put_back" = true) (k_put_back : PySem.W.keepIn K (.ref f_put_back) = true)
    {f_is_plan : Addr} {od_is_plan an_is_plan : Option Addr} {sl_is_plan : Array (Option Value)} {oc_is_plan kV_is_plan dc_is_plan pm_is_plan cd_is_plan ct_is_plan : Value}
    (a_is_plan : PySem.W.nsIn K mainGlobals "is_plan" = some (some (.ref f_is_plan))) (l_is_plan : K.lookup f_is_plan = some ⟨oc_is_plan, od_is_plan, .func (PySem.W.fnOf "is_plan" "is_plan" (defArgs s_is_plan) (defBody s_is_plan) (defScope s_is_plan) .none kV_is_plan dc_is_plan pm_is_plan an_is_plan cd_is_plan ct_is_plan), sl_is_plan⟩) (c_is_plan : PySem.W.codeIn K cd_is_plan "is_plan" = true) (k_is_plan : PySem.W.keepIn K (.ref f_is_plan) = true)
    {f_recovered : Addr} {od_recovered an_recovered : Option Addr} {sl_recovered : Array (Option Value)} {oc_recovered kV_recovered dc_recovered pm_recovered cd_recovered ct_recovered : Value}
    (a_recovered : PySem.W.nsIn K mainGlobals "recovered" = some (some (.ref f_recovered))) (l_recovered : K.lookup f_recovered = some ⟨oc_recovered, od_recovered, .func (PySem.W.fnOf "recovered" "recovered" (defArgs s_recovered) (defBody s_recovered) (defScope s_recovered) .none kV_recovered dc_recovered pm_recovered an_recovered cd_recovered ct_recovered), sl_recovered⟩) (c_recovered : PySem.W.codeIn K cd_recovered "recovered" = true) (k_recovered : PySem.W.keepIn K (.ref f_recovered) = true)
    {f_need_empty : Addr} {od_need_empty an_need_empty : Option Addr} {sl_need_empty : Array (Option Value)} {oc_need_empty kV_need_empty dc_need_empty pm_need_empty cd_need_empty ct_need_empty : Value}
    (a_need_empty : PySem.W.nsIn K mainGlobals "need_empty" = some (some (.ref f_need_empty))) (l_need_empty : K.lookup f_need_empty = some ⟨oc_need_empty, od_need_empty, .func (PySem.W.fnOf "need_empty" "need_empty" (defArgs s_need_empty) (defBody s_need_empty) (defScope s_need_empty) .none kV_need_empty dc_need_empty pm_need_empty an_need_empty cd_need_empty ct_need_empty), sl_need_empty⟩) (c_need_empty : PySem.W.codeIn K cd_need_empty "need_empty" = true) (k_need_empty : PySem.W.keepIn K (.ref f_need_empty) = true)
    {f_plan_for : Addr} {od_plan_for an_plan_for : Option Addr} {sl_plan_for : Array (Option Value)} {oc_plan_for kV_plan_for dc_plan_for pm_plan_for cd_plan_for ct_plan_for : Value}
    (a_plan_for : PySem.W.nsIn K mainGlobals "plan_for" = some (some (.ref f_plan_for))) (l_plan_for : K.lookup f_plan_for = some ⟨oc_plan_for, od_plan_for, .func (PySem.W.fnOf "plan_for" "plan_for" (defArgs s_plan_for) (defBody s_plan_for) (defScope s_plan_for) .none kV_plan_for dc_plan_for pm_plan_for an_plan_for cd_plan_for ct_plan_for), sl_plan_for⟩) (c_plan_for : PySem.W.codeIn K cd_plan_for "plan_for" = true) (k_plan_for : PySem.W.keepIn K (.ref f_plan_for) = true)
    {f_law_pot : Addr} {od_law_pot an_law_pot : Option Addr} {sl_law_pot : Array (Option Value)} {oc_law_pot kV_law_pot dc_law_pot pm_law_pot cd_law_pot ct_law_pot : Value}
    (a_law_pot : PySem.W.nsIn K mainGlobals "_law_pot" = some (some (.ref f_law_pot))) (l_law_pot : K.lookup f_law_pot = some ⟨oc_law_pot, od_law_pot, .func (PySem.W.fnOf "_law_pot" "_law_pot" (defArgs s_law_pot) (defBody s_law_pot) (defScope s_law_pot) .none kV_law_pot dc_law_pot pm_law_pot an_law_pot cd_law_pot ct_law_pot), sl_law_pot⟩) (c_law_pot : PySem.W.codeIn K cd_law_pot "_law_pot" = true) (k_law_pot : PySem.W.keepIn K (.ref f_law_pot) = true)
    {f_law_draw : Addr} {od_law_draw an_law_draw : Option Addr} {sl_law_draw : Array (Option Value)} {oc_law_draw kV_law_draw dc_law_draw pm_law_draw cd_law_draw ct_law_draw : Value}
    (a_law_draw : PySem.W.nsIn K mainGlobals "_law_draw" = some (some (.ref f_law_draw))) (l_law_draw : K.lookup f_law_draw = some ⟨oc_law_draw, od_law_draw, .func (PySem.W.fnOf "_law_draw" "_law_draw" (defArgs s_law_draw) (defBody s_law_draw) (defScope s_law_draw) .none kV_law_draw dc_law_draw pm_law_draw an_law_draw cd_law_draw ct_law_draw), sl_law_draw⟩) (c_law_draw : PySem.W.codeIn K cd_law_draw "_law_draw" = true) (k_law_draw : PySem.W.keepIn K (.ref f_law_draw) = true)
    {f_law_item : Addr} {od_law_item an_law_item : Option Addr} {sl_law_item : Array (Option Value)} {oc_law_item kV_law_item dc_law_item pm_law_item cd_law_item ct_law_item : Value}
    (a_law_item : PySem.W.nsIn K mainGlobals "_law_item" = some (some (.ref f_law_item))) (l_law_item : K.lookup f_law_item = some ⟨oc_law_item, od_law_item, .func (PySem.W.fnOf "_law_item" "_law_item" (defArgs s_law_item) (defBody s_law_item) (defScope s_law_item) .none kV_law_item dc_law_item pm_law_item an_law_item cd_law_item ct_law_item), sl_law_item⟩) (c_law_item : PySem.W.codeIn K cd_law_item "_law_item" = true) (k_law_item : PySem.W.keepIn K (.ref f_law_item) = true)
    {f_law_done : Addr} {od_law_done an_law_done : Option Addr} {sl_law_done : Array (Option Value)} {oc_law_done kV_law_done dc_law_done pm_law_done cd_law_done ct_law_done : Value}
    (a_law_done : PySem.W.nsIn K mainGlobals "_law_done" = some (some (.ref f_law_done))) (l_law_done : K.lookup f_law_done = some ⟨oc_law_done, od_law_done, .func (PySem.W.fnOf "_law_done" "_law_done" (defArgs s_law_done) (defBody s_law_done) (defScope s_law_done) .none kV_law_done dc_law_done pm_law_done an_law_done cd_law_done ct_law_done), sl_law_done⟩) (c_law_done : PySem.W.codeIn K cd_law_done "_law_done" = true) (k_law_done : PySem.W.keepIn K (.ref f_law_done) = true)
    {f_law_changes : Addr} {od_law_changes an_law_changes : Option Addr} {sl_law_changes : Array (Option Value)} {oc_law_changes kV_law_changes dc_law_changes pm_law_changes cd_law_changes ct_law_changes : Value}
    (a_law_changes : PySem.W.nsIn K mainGlobals "_law_changes" = some (some (.ref f_law_changes))) (l_law_changes : K.lookup f_law_changes = some ⟨oc_law_changes, od_law_changes, .func (PySem.W.fnOf "_law_changes" "_law_changes" (defArgs s_law_changes) (defBody s_law_changes) (defScope s_law_changes) .none kV_law_changes dc_law_changes pm_law_changes an_law_changes cd_law_changes ct_law_changes), sl_law_changes⟩) (c_law_changes : PySem.W.codeIn K cd_law_changes "_law_changes" = true) (k_law_changes : PySem.W.keepIn K (.ref f_law_changes) = true)
    {f_law_plan_for : Addr} {od_law_plan_for an_law_plan_for : Option Addr} {sl_law_plan_for : Array (Option Value)} {oc_law_plan_for kV_law_plan_for dc_law_plan_for pm_law_plan_for cd_law_plan_for ct_law_plan_for : Value}
    (a_law_plan_for : PySem.W.nsIn K mainGlobals "_law_plan_for" = some (some (.ref f_law_plan_for))) (l_law_plan_for : K.lookup f_law_plan_for = some ⟨oc_law_plan_for, od_law_plan_for, .func (PySem.W.fnOf "_law_plan_for" "_law_plan_for" (defArgs s_law_plan_for) (defBody s_law_plan_for) (defScope s_law_plan_for) .none kV_law_plan_for dc_law_plan_for pm_law_plan_for an_law_plan_for cd_law_plan_for ct_law_plan_for), sl_law_plan_for⟩) (c_law_plan_for : PySem.W.codeIn K cd_law_plan_for "_law_plan_for" = true) (k_law_plan_for : PySem.W.keepIn K (.ref f_law_plan_for) = true)
    {f_law_empty_disk : Addr} {od_law_empty_disk an_law_empty_disk : Option Addr} {sl_law_empty_disk : Array (Option Value)} {oc_law_empty_disk kV_law_empty_disk dc_law_empty_disk pm_law_empty_disk cd_law_empty_disk ct_law_empty_disk : Value}
    (a_law_empty_disk : PySem.W.nsIn K mainGlobals "_law_empty_disk" = some (some (.ref f_law_empty_disk))) (l_law_empty_disk : K.lookup f_law_empty_disk = some ⟨oc_law_empty_disk, od_law_empty_disk, .func (PySem.W.fnOf "_law_empty_disk" "_law_empty_disk" (defArgs s_law_empty_disk) (defBody s_law_empty_disk) (defScope s_law_empty_disk) .none kV_law_empty_disk dc_law_empty_disk pm_law_empty_disk an_law_empty_disk cd_law_empty_disk ct_law_empty_disk), sl_law_empty_disk⟩) (c_law_empty_disk : PySem.W.codeIn K cd_law_empty_disk "_law_empty_disk" = true) (k_law_empty_disk : PySem.W.keepIn K (.ref f_law_empty_disk) = true)
    {f_law_with : Addr} {od_law_with an_law_with : Option Addr} {sl_law_with : Array (Option Value)} {oc_law_with kV_law_with dc_law_with pm_law_with cd_law_with ct_law_with : Value}
    (a_law_with : PySem.W.nsIn K mainGlobals "_law_with" = some (some (.ref f_law_with))) (l_law_with : K.lookup f_law_with = some ⟨oc_law_with, od_law_with, .func (PySem.W.fnOf "_law_with" "_law_with" (defArgs s_law_with) (defBody s_law_with) (defScope s_law_with) .none kV_law_with dc_law_with pm_law_with an_law_with cd_law_with ct_law_with), sl_law_with⟩) (c_law_with : PySem.W.codeIn K cd_law_with "_law_with" = true) (k_law_with : PySem.W.keepIn K (.ref f_law_with) = true)
    {f_law_caught : Addr} {od_law_caught an_law_caught : Option Addr} {sl_law_caught : Array (Option Value)} {oc_law_caught kV_law_caught dc_law_caught pm_law_caught cd_law_caught ct_law_caught : Value}
    (a_law_caught : PySem.W.nsIn K mainGlobals "_law_caught" = some (some (.ref f_law_caught))) (l_law_caught : K.lookup f_law_caught = some ⟨oc_law_caught, od_law_caught, .func (PySem.W.fnOf "_law_caught" "_law_caught" (defArgs s_law_caught) (defBody s_law_caught) (defScope s_law_caught) .none kV_law_caught dc_law_caught pm_law_caught an_law_caught cd_law_caught ct_law_caught), sl_law_caught⟩) (c_law_caught : PySem.W.codeIn K cd_law_caught "_law_caught" = true) (k_law_caught : PySem.W.keepIn K (.ref f_law_caught) = true)
    {f_law : Addr} {od_law an_law : Option Addr} {sl_law : Array (Option Value)} {oc_law kV_law dc_law pm_law cd_law ct_law : Value}
    (a_law : PySem.W.nsIn K mainGlobals "law" = some (some (.ref f_law))) (l_law : K.lookup f_law = some ⟨oc_law, od_law, .func (PySem.W.fnOf "law" "law" (defArgs s_law) (defBody s_law) (defScope s_law) .none kV_law dc_law pm_law an_law cd_law ct_law), sl_law⟩) (c_law : PySem.W.codeIn K cd_law "law" = true) (k_law : PySem.W.keepIn K (.ref f_law) = true)
    (z_abs : PySem.W.nsIn K mainGlobals "abs" = some none)
    (z_all : PySem.W.nsIn K mainGlobals "all" = some none)
    (z_any : PySem.W.nsIn K mainGlobals "any" = some none)
    (z_bool : PySem.W.nsIn K mainGlobals "bool" = some none)
    (z_enumerate : PySem.W.nsIn K mainGlobals "enumerate" = some none)
    (z_int : PySem.W.nsIn K mainGlobals "int" = some none)
    (z_isinstance : PySem.W.nsIn K mainGlobals "isinstance" = some none)
    (z_len : PySem.W.nsIn K mainGlobals "len" = some none)
    (z_list : PySem.W.nsIn K mainGlobals "list" = some none)
    (z_max : PySem.W.nsIn K mainGlobals "max" = some none)
    (z_min : PySem.W.nsIn K mainGlobals "min" = some none)
    (z_range : PySem.W.nsIn K mainGlobals "range" = some none)
    (z_repr : PySem.W.nsIn K mainGlobals "repr" = some none)
    (z_str : PySem.W.nsIn K mainGlobals "str" = some none)
    (z_tuple : PySem.W.nsIn K mainGlobals "tuple" = some none)
    (z_zip : PySem.W.nsIn K mainGlobals "zip" = some none)
    {C_NotEmpty C_NoRoom C_WireError : Addr}
    (g_NotEmpty : PySem.W.nsIn K mainGlobals "NotEmpty" = some (some (.ref C_NotEmpty))) (x_NotEmpty : PySem.W.excIn K C_NotEmpty [.type "ValueError", .type "Exception", .type "BaseException", .type "object"] "ValueError.__new__" = true) (kk_NotEmpty : PySem.W.keepIn K (.ref C_NotEmpty) = true) (bb_NotEmpty : PySem.W.subIn K (.ref C_NotEmpty) (.type "BaseException") = some true) (tt_NotEmpty : PySem.W.typeIn K (.ref C_NotEmpty) = some (.type "type")) (ii_NotEmpty : PySem.W.isClsIn K C_NotEmpty = true)
    (g_NoRoom : PySem.W.nsIn K mainGlobals "NoRoom" = some (some (.ref C_NoRoom))) (x_NoRoom : PySem.W.excIn K C_NoRoom [.type "ValueError", .type "Exception", .type "BaseException", .type "object"] "ValueError.__new__" = true) (kk_NoRoom : PySem.W.keepIn K (.ref C_NoRoom) = true) (bb_NoRoom : PySem.W.subIn K (.ref C_NoRoom) (.type "BaseException") = some true) (tt_NoRoom : PySem.W.typeIn K (.ref C_NoRoom) = some (.type "type")) (ii_NoRoom : PySem.W.isClsIn K C_NoRoom = true)
    (g_WireError : PySem.W.nsIn K mainGlobals "WireError" = some (some (.ref C_WireError))) (x_WireError : PySem.W.excIn K C_WireError [.type "ValueError", .type "Exception", .type "BaseException", .type "object"] "ValueError.__new__" = true) (kk_WireError : PySem.W.keepIn K (.ref C_WireError) = true) (bb_WireError : PySem.W.subIn K (.ref C_WireError) (.type "BaseException") = some true) (tt_WireError : PySem.W.typeIn K (.ref C_WireError) = some (.type "type")) (ii_WireError : PySem.W.isClsIn K C_WireError = true)
    (s_NotEmpty_NotEmpty : PySem.W.subIn K (.ref C_NotEmpty) (.ref C_NotEmpty) = some true)
    (s_NotEmpty_NoRoom : PySem.W.subIn K (.ref C_NotEmpty) (.ref C_NoRoom) = some false)
    (s_NotEmpty_WireError : PySem.W.subIn K (.ref C_NotEmpty) (.ref C_WireError) = some true)
    (s_NoRoom_NotEmpty : PySem.W.subIn K (.ref C_NoRoom) (.ref C_NotEmpty) = some false)
    (s_NoRoom_NoRoom : PySem.W.subIn K (.ref C_NoRoom) (.ref C_NoRoom) = some true)
    (s_NoRoom_WireError : PySem.W.subIn K (.ref C_NoRoom) (.ref C_WireError) = some true)
    (s_WireError_NotEmpty : PySem.W.subIn K (.ref C_WireError) (.ref C_NotEmpty) = some false)
    (s_WireError_NoRoom : PySem.W.subIn K (.ref C_WireError) (.ref C_NoRoom) = some false)
    (s_WireError_WireError : PySem.W.subIn K (.ref C_WireError) (.ref C_WireError) = some true)
    : Txt P K mg where
  c_MOST_VALUES := ⟨_, PySem.W.mg_of X G h_MOST_VALUES, r_MOST_VALUES⟩
  c_LEAST_SLOTS := ⟨_, PySem.W.mg_of X G h_LEAST_SLOTS, r_LEAST_SLOTS⟩
  c_MOST_SLOTS := ⟨_, PySem.W.mg_of X G h_MOST_SLOTS, r_MOST_SLOTS⟩
  c_MOST_VALUE := ⟨_, PySem.W.mg_of X G h_MOST_VALUE, r_MOST_VALUE⟩
  c_MOST_GROUP := ⟨_, PySem.W.mg_of X G h_MOST_GROUP, r_MOST_GROUP⟩
  c_MOST_STAGES := ⟨_, PySem.W.mg_of X G h_MOST_STAGES, r_MOST_STAGES⟩
  c_MOST_WRITES := ⟨_, PySem.W.mg_of X G h_MOST_WRITES, r_MOST_WRITES⟩
  d_is_from := .mk (st := s_is_from) l_is_from c_is_from k_is_from (PySem.W.mg_of X G a_is_from) (fun _ _ _ _ _ _ us hl => match us, hl with | [_, _, _], _ => rfl)
  d_is_tuple := .mk (st := s_is_tuple) l_is_tuple c_is_tuple k_is_tuple (PySem.W.mg_of X G a_is_tuple) (fun _ _ _ _ _ _ us hl => match us, hl with | [_, _, _], _ => rfl)
  d_is_item := .mk (st := s_is_item) l_is_item c_is_item k_is_item (PySem.W.mg_of X G a_is_item) (fun _ _ _ _ _ _ us hl => match us, hl with | [_, _], _ => rfl)
  d_is_a_disk := .mk (st := s_is_a_disk) l_is_a_disk c_is_a_disk k_is_a_disk (PySem.W.mg_of X G a_is_a_disk) (fun _ _ _ _ _ _ us hl => match us, hl with | [_], _ => rfl)
  d_is_write := .mk (st := s_is_write) l_is_write c_is_write k_is_write (PySem.W.mg_of X G a_is_write) (fun _ _ _ _ _ _ us hl => match us, hl with | [_, _], _ => rfl)
  d_is_stage := .mk (st := s_is_stage) l_is_stage c_is_stage k_is_stage (PySem.W.mg_of X G a_is_stage) (fun _ _ _ _ _ _ us hl => match us, hl with | [_, _], _ => rfl)
  d_is_a_plan := .mk (st := s_is_a_plan) l_is_a_plan c_is_a_plan k_is_a_plan (PySem.W.mg_of X G a_is_a_plan) (fun _ _ _ _ _ _ us hl => match us, hl with | [_, _], _ => rfl)
  d_are_changes := .mk (st := s_are_changes) l_are_changes c_are_changes k_are_changes (PySem.W.mg_of X G a_are_changes) (fun _ _ _ _ _ _ us hl => match us, hl with | [_, _], _ => rfl)
  d_need_disk := .mk (st := s_need_disk) l_need_disk c_need_disk k_need_disk (PySem.W.mg_of X G a_need_disk) (fun _ _ _ _ _ _ us hl => match us, hl with | [_], _ => rfl)
  d_need_group := .mk (st := s_need_group) l_need_group c_need_group k_need_group (PySem.W.mg_of X G a_need_group) (fun _ _ _ _ _ _ us hl => match us, hl with | [_], _ => rfl)
  d_need_changes := .mk (st := s_need_changes) l_need_changes c_need_changes k_need_changes (PySem.W.mg_of X G a_need_changes) (fun _ _ _ _ _ _ us hl => match us, hl with | [_, _], _ => rfl)
  d_puts_of := .mk (st := s_puts_of) l_puts_of c_puts_of k_puts_of (PySem.W.mg_of X G a_puts_of) (fun _ _ _ _ _ _ us hl => match us, hl with | [_, _], _ => rfl)
  d_is_whole := .mk (st := s_is_whole) l_is_whole c_is_whole k_is_whole (PySem.W.mg_of X G a_is_whole) (fun _ _ _ _ _ _ us hl => match us, hl with | [_, _, _], _ => rfl)
  d_group_put := .mk (st := s_group_put) l_group_put c_group_put k_group_put (PySem.W.mg_of X G a_group_put) (fun _ _ _ _ _ _ us hl => match us, hl with | [_], _ => rfl)
  d_with_changes := .mk (st := s_with_changes) l_with_changes c_with_changes k_with_changes (PySem.W.mg_of X G a_with_changes) (fun _ _ _ _ _ _ us hl => match us, hl with | [_, _], _ => rfl)
  d_put_back := .mk (st := s_put_back) l_put_back c_put_back k_put_back (PySem.W.mg_of X G a_put_back) (fun _ _ _ _ _ _ us hl => match us, hl with | [_], _ => rfl)
  d_is_plan := .mk (st := s_is_plan) l_is_plan c_is_plan k_is_plan (PySem.W.mg_of X G a_is_plan) (fun _ _ _ _ _ _ us hl => match us, hl with | [_, _], _ => rfl)
  d_recovered := .mk (st := s_recovered) l_recovered c_recovered k_recovered (PySem.W.mg_of X G a_recovered) (fun _ _ _ _ _ _ us hl => match us, hl with | [_], _ => rfl)
  d_need_empty := .mk (st := s_need_empty) l_need_empty c_need_empty k_need_empty (PySem.W.mg_of X G a_need_empty) (fun _ _ _ _ _ _ us hl => match us, hl with | [_], _ => rfl)
  d_plan_for := .mk (st := s_plan_for) l_plan_for c_plan_for k_plan_for (PySem.W.mg_of X G a_plan_for) (fun _ _ _ _ _ _ us hl => match us, hl with | [_, _, _], _ => rfl)
  d_law_pot := .mk (st := s_law_pot) l_law_pot c_law_pot k_law_pot (PySem.W.mg_of X G a_law_pot) (fun _ _ _ _ _ _ us hl => match us, hl with | [_, _], _ => rfl)
  d_law_draw := .mk (st := s_law_draw) l_law_draw c_law_draw k_law_draw (PySem.W.mg_of X G a_law_draw) (fun _ _ _ _ _ _ us hl => match us, hl with | [_, _], _ => rfl)
  d_law_item := .mk (st := s_law_item) l_law_item c_law_item k_law_item (PySem.W.mg_of X G a_law_item) (fun _ _ _ _ _ _ us hl => match us, hl with | [_, _, _], _ => rfl)
  d_law_done := .mk (st := s_law_done) l_law_done c_law_done k_law_done (PySem.W.mg_of X G a_law_done) (fun _ _ _ _ _ _ us hl => match us, hl with | [_, _], _ => rfl)
  d_law_changes := .mk (st := s_law_changes) l_law_changes c_law_changes k_law_changes (PySem.W.mg_of X G a_law_changes) (fun _ _ _ _ _ _ us hl => match us, hl with | [_, _], _ => rfl)
  d_law_plan_for := .mk (st := s_law_plan_for) l_law_plan_for c_law_plan_for k_law_plan_for (PySem.W.mg_of X G a_law_plan_for) (fun _ _ _ _ _ _ us hl => match us, hl with | [_, _, _], _ => rfl)
  d_law_empty_disk := .mk (st := s_law_empty_disk) l_law_empty_disk c_law_empty_disk k_law_empty_disk (PySem.W.mg_of X G a_law_empty_disk) (fun _ _ _ _ _ _ us hl => match us, hl with | [_], _ => rfl)
  d_law_with := .mk (st := s_law_with) l_law_with c_law_with k_law_with (PySem.W.mg_of X G a_law_with) (fun _ _ _ _ _ _ us hl => match us, hl with | [_, _], _ => rfl)
  d_law_caught := .mk (st := s_law_caught) l_law_caught c_law_caught k_law_caught (PySem.W.mg_of X G a_law_caught) (fun _ _ _ _ _ _ us hl => match us, hl with | [_, _, _], _ => rfl)
  d_law := .mk (st := s_law) l_law c_law k_law (PySem.W.mg_of X G a_law) (fun _ _ _ _ _ _ us hl => match us, hl with | [_], _ => rfl)
  b_abs := PySem.W.mg_none_of X G z_abs
  b_all := PySem.W.mg_none_of X G z_all
  b_any := PySem.W.mg_none_of X G z_any
  b_bool := PySem.W.mg_none_of X G z_bool
  b_enumerate := PySem.W.mg_none_of X G z_enumerate
  b_int := PySem.W.mg_none_of X G z_int
  b_isinstance := PySem.W.mg_none_of X G z_isinstance
  b_len := PySem.W.mg_none_of X G z_len
  b_list := PySem.W.mg_none_of X G z_list
  b_max := PySem.W.mg_none_of X G z_max
  b_min := PySem.W.mg_none_of X G z_min
  b_range := PySem.W.mg_none_of X G z_range
  b_repr := PySem.W.mg_none_of X G z_repr
  b_str := PySem.W.mg_none_of X G z_str
  b_tuple := PySem.W.mg_none_of X G z_tuple
  b_zip := PySem.W.mg_none_of X G z_zip
  e_NotEmpty := ⟨C_NotEmpty, PySem.W.mg_of X G g_NotEmpty, x_NotEmpty, kk_NotEmpty, bb_NotEmpty, tt_NotEmpty, ii_NotEmpty⟩
  e_NoRoom := ⟨C_NoRoom, PySem.W.mg_of X G g_NoRoom, x_NoRoom, kk_NoRoom, bb_NoRoom, tt_NoRoom, ii_NoRoom⟩
  e_WireError := ⟨C_WireError, PySem.W.mg_of X G g_WireError, x_WireError, kk_WireError, bb_WireError, tt_WireError, ii_WireError⟩
  m_NotEmpty_NotEmpty := fun C D h1 h2 => by
    cases (PySem.W.mg_of X G g_NotEmpty).symm.trans h1
    cases (PySem.W.mg_of X G g_NotEmpty).symm.trans h2
    exact s_NotEmpty_NotEmpty
  m_NotEmpty_NoRoom := fun C D h1 h2 => by
    cases (PySem.W.mg_of X G g_NotEmpty).symm.trans h1
    cases (PySem.W.mg_of X G g_NoRoom).symm.trans h2
    exact s_NotEmpty_NoRoom
  m_NotEmpty_WireError := fun C D h1 h2 => by
    cases (PySem.W.mg_of X G g_NotEmpty).symm.trans h1
    cases (PySem.W.mg_of X G g_WireError).symm.trans h2
    exact s_NotEmpty_WireError
  m_NoRoom_NotEmpty := fun C D h1 h2 => by
    cases (PySem.W.mg_of X G g_NoRoom).symm.trans h1
    cases (PySem.W.mg_of X G g_NotEmpty).symm.trans h2
    exact s_NoRoom_NotEmpty
  m_NoRoom_NoRoom := fun C D h1 h2 => by
    cases (PySem.W.mg_of X G g_NoRoom).symm.trans h1
    cases (PySem.W.mg_of X G g_NoRoom).symm.trans h2
    exact s_NoRoom_NoRoom
  m_NoRoom_WireError := fun C D h1 h2 => by
    cases (PySem.W.mg_of X G g_NoRoom).symm.trans h1
    cases (PySem.W.mg_of X G g_WireError).symm.trans h2
    exact s_NoRoom_WireError
  m_WireError_NotEmpty := fun C D h1 h2 => by
    cases (PySem.W.mg_of X G g_WireError).symm.trans h1
    cases (PySem.W.mg_of X G g_NotEmpty).symm.trans h2
    exact s_WireError_NotEmpty
  m_WireError_NoRoom := fun C D h1 h2 => by
    cases (PySem.W.mg_of X G g_WireError).symm.trans h1
    cases (PySem.W.mg_of X G g_NoRoom).symm.trans h2
    exact s_WireError_NoRoom
  m_WireError_WireError := fun C D h1 h2 => by
    cases (PySem.W.mg_of X G g_WireError).symm.trans h1
    cases (PySem.W.mg_of X G g_WireError).symm.trans h2
    exact s_WireError_WireError
theorem walk {l : PySem.W.OpenLaw} {q : Program} {loose : List Str} {XP : (Str → Option Value) → Heap → Prop} {YP : World → Heap → Prop} {d : DefRec} {K : Params → PySem.W.Frag} (hn : l.most = some 63) (hdf : d.params.defaults = []) (hdn : d.name = "law")
    (hY : ∀ (w : World) (h : Heap), YP w h → (K w.params).In h) (F : ∀ (w : World) (mg : Str → Option Value) (h : Heap), (K w.params).In h → h.Ns mainGlobals mg → Txt l.prog (K w.params) mg) :
    PySem.W.WalkO q loose XP YP l.row.toRowW d [] (fun f vs => PySem.call f vs) := by
  refine walk_keeps (n := 63) (k := 7) (x := "script") (sp := fun w => sp1 (Φ_law (K w.params))) hn (by decide) hdf ⟨rfl, by decide, by decide⟩ hY ?_ ?_
  · intro w mg fa h KX G hmg
    have T := F w mg h KX G
    obtain ⟨f, fd, F1, hm, B, KB⟩ := T.d_law
    rw [hdn] at hmg
    obtain rfl : f = fa := Value.ref.inj (Option.some.inj (hm.symm.trans hmg))
    exact ⟨fd, fun s u => KB s [u] rfl, fun base _ _ => ok_law T F1⟩
  · intro w H a ns hl hS
    exact ⟨_, rfl, a, ns, rfl, hS, hl, fun _ => rfl⟩
end Mine
open PySem PySem.W PyProof.Rows
set_option maxRecDepth 100000 in
set_option maxHeartbeats 0 in
theorem PySem.Challenge.cw_wireshell_k55_plans_for_changes_holds : PySem.Challenge.rw_wireshell_k55_plans_for_changes.Holds := by
  w_on; o_law; k_head; (case hw => w_witness2)
  k_fill
  refine Mine.walk (l := PySem.Challenge.rw_wireshell_k55_plans_for_changes) rfl rfl rfl (fun w h Y => PySem.W.kIn_of Y) ?F
  case F =>
    intro w mg h KX G
    refine' Mine.all_mk KX G ?h_MOST_VALUES ?r_MOST_VALUES ?h_LEAST_SLOTS ?r_LEAST_SLOTS ?h_MOST_SLOTS ?r_MOST_SLOTS ?h_MOST_VALUE ?r_MOST_VALUE ?h_MOST_GROUP ?r_MOST_GROUP ?h_MOST_STAGES ?r_MOST_STAGES ?h_MOST_WRITES ?r_MOST_WRITES ?a_is_from ?l_is_from ?c_is_from ?k_is_from ?a_is_tuple ?l_is_tuple ?c_is_tuple ?k_is_tuple ?a_is_item ?l_is_item ?c_is_item ?k_is_item ?a_is_a_disk ?l_is_a_disk ?c_is_a_disk ?k_is_a_disk ?a_is_write ?l_is_write ?c_is_write ?k_is_write ?a_is_stage ?l_is_stage ?c_is_stage ?k_is_stage ?a_is_a_plan ?l_is_a_plan ?c_is_a_plan ?k_is_a_plan ?a_are_changes ?l_are_changes ?c_are_changes ?k_are_changes ?a_need_disk ?l_need_disk ?c_need_disk ?k_need_disk ?a_need_group ?l_need_group ?c_need_group ?k_need_group ?a_need_changes ?l_need_changes ?c_need_changes ?k_need_changes ?a_puts_of ?l_puts_of ?c_puts_of ?k_puts_of ?a_is_whole ?l_is_whole ?c_is_whole ?k_is_whole ?a_group_put ?l_group_put ?c_group_put ?k_group_put ?a_with_changes ?l_with_changes ?c_with_changes ?k_with_changes ?a_put_back ?l_put_back ?c_put_back ?k_put_back ?a_is_plan ?l_is_plan ?c_is_plan ?k_is_plan ?a_recovered ?l_recovered ?c_recovered ?k_recovered ?a_need_empty ?l_need_empty ?c_need_empty ?k_need_empty ?a_plan_for ?l_plan_for ?c_plan_for ?k_plan_for ?a_law_pot ?l_law_pot ?c_law_pot ?k_law_pot ?a_law_draw ?l_law_draw ?c_law_draw ?k_law_draw ?a_law_item ?l_law_item ?c_law_item ?k_law_item ?a_law_done ?l_law_done ?c_law_done ?k_law_done ?a_law_changes ?l_law_changes ?c_law_changes ?k_law_changes ?a_law_plan_for ?l_law_plan_for ?c_law_plan_for ?k_law_plan_for ?a_law_empty_disk ?l_law_empty_disk ?c_law_empty_disk ?k_law_empty_disk ?a_law_with ?l_law_with ?c_law_with ?k_law_with ?a_law_caught ?l_law_caught ?c_law_caught ?k_law_caught ?a_law ?l_law ?c_law ?k_law ?z_abs ?z_all ?z_any ?z_bool ?z_enumerate ?z_int ?z_isinstance ?z_len ?z_list ?z_max ?z_min ?z_range ?z_repr ?z_str ?z_tuple ?z_zip ?g_NotEmpty ?x_NotEmpty ?kk_NotEmpty ?bb_NotEmpty ?tt_NotEmpty ?ii_NotEmpty ?g_NoRoom ?x_NoRoom ?kk_NoRoom ?bb_NoRoom ?tt_NoRoom ?ii_NoRoom ?g_WireError ?x_WireError ?kk_WireError ?bb_WireError ?tt_WireError ?ii_WireError ?s_NotEmpty_NotEmpty ?s_NotEmpty_NoRoom ?s_NotEmpty_WireError ?s_NoRoom_NotEmpty ?s_NoRoom_NoRoom ?s_NoRoom_WireError ?s_WireError_NotEmpty ?s_WireError_NoRoom ?s_WireError_WireError
    (case h_MOST_VALUES => k_is); (case r_MOST_VALUES => exact ⟨_, rfl⟩)
    (case h_LEAST_SLOTS => k_is); (case r_LEAST_SLOTS => exact ⟨_, rfl⟩)
    (case h_MOST_SLOTS => k_is); (case r_MOST_SLOTS => exact ⟨_, rfl⟩)
    (case h_MOST_VALUE => k_is); (case r_MOST_VALUE => exact ⟨_, rfl⟩)
    (case h_MOST_GROUP => k_is); (case r_MOST_GROUP => exact ⟨_, rfl⟩)
    (case h_MOST_STAGES => k_is); (case r_MOST_STAGES => exact ⟨_, rfl⟩)
    (case h_MOST_WRITES => k_is); (case r_MOST_WRITES => exact ⟨_, rfl⟩)
    (case a_is_from => k_is); (case l_is_from => k_is); (case c_is_from => k_is); (case k_is_from => k_is)
    (case a_is_tuple => k_is); (case l_is_tuple => k_is); (case c_is_tuple => k_is); (case k_is_tuple => k_is)
    (case a_is_item => k_is); (case l_is_item => k_is); (case c_is_item => k_is); (case k_is_item => k_is)
    (case a_is_a_disk => k_is); (case l_is_a_disk => k_is); (case c_is_a_disk => k_is); (case k_is_a_disk => k_is)
    (case a_is_write => k_is); (case l_is_write => k_is); (case c_is_write => k_is); (case k_is_write => k_is)
    (case a_is_stage => k_is); (case l_is_stage => k_is); (case c_is_stage => k_is); (case k_is_stage => k_is)
    (case a_is_a_plan => k_is); (case l_is_a_plan => k_is); (case c_is_a_plan => k_is); (case k_is_a_plan => k_is)
    (case a_are_changes => k_is); (case l_are_changes => k_is); (case c_are_changes => k_is); (case k_are_changes => k_is)
    (case a_need_disk => k_is); (case l_need_disk => k_is); (case c_need_disk => k_is); (case k_need_disk => k_is)
    (case a_need_group => k_is); (case l_need_group => k_is); (case c_need_group => k_is); (case k_need_group => k_is)
    (case a_need_changes => k_is); (case l_need_changes => k_is); (case c_need_changes => k_is); (case k_need_changes => k_is)
    (case a_puts_of => k_is); (case l_puts_of => k_is); (case c_puts_of => k_is); (case k_puts_of => k_is)
    (case a_is_whole => k_is); (case l_is_whole => k_is); (case c_is_whole => k_is); (case k_is_whole => k_is)
    (case a_group_put => k_is); (case l_group_put => k_is); (case c_group_put => k_is); (case k_group_put => k_is)
    (case a_with_changes => k_is); (case l_with_changes => k_is); (case c_with_changes => k_is); (case k_with_changes => k_is)
    (case a_put_back => k_is); (case l_put_back => k_is); (case c_put_back => k_is); (case k_put_back => k_is)
    (case a_is_plan => k_is); (case l_is_plan => k_is); (case c_is_plan => k_is); (case k_is_plan => k_is)
    (case a_recovered => k_is); (case l_recovered => k_is); (case c_recovered => k_is); (case k_recovered => k_is)
    (case a_need_empty => k_is); (case l_need_empty => k_is); (case c_need_empty => k_is); (case k_need_empty => k_is)
    (case a_plan_for => k_is); (case l_plan_for => k_is); (case c_plan_for => k_is); (case k_plan_for => k_is)
    (case a_law_pot => k_is); (case l_law_pot => k_is); (case c_law_pot => k_is); (case k_law_pot => k_is)
    (case a_law_draw => k_is); (case l_law_draw => k_is); (case c_law_draw => k_is); (case k_law_draw => k_is)
    (case a_law_item => k_is); (case l_law_item => k_is); (case c_law_item => k_is); (case k_law_item => k_is)
    (case a_law_done => k_is); (case l_law_done => k_is); (case c_law_done => k_is); (case k_law_done => k_is)
    (case a_law_changes => k_is); (case l_law_changes => k_is); (case c_law_changes => k_is); (case k_law_changes => k_is)
    (case a_law_plan_for => k_is); (case l_law_plan_for => k_is); (case c_law_plan_for => k_is); (case k_law_plan_for => k_is)
    (case a_law_empty_disk => k_is); (case l_law_empty_disk => k_is); (case c_law_empty_disk => k_is); (case k_law_empty_disk => k_is)
    (case a_law_with => k_is); (case l_law_with => k_is); (case c_law_with => k_is); (case k_law_with => k_is)
    (case a_law_caught => k_is); (case l_law_caught => k_is); (case c_law_caught => k_is); (case k_law_caught => k_is)
    (case a_law => k_is); (case l_law => k_is); (case c_law => k_is); (case k_law => k_is)
    (case z_abs => k_is)
    (case z_all => k_is)
    (case z_any => k_is)
    (case z_bool => k_is)
    (case z_enumerate => k_is)
    (case z_int => k_is)
    (case z_isinstance => k_is)
    (case z_len => k_is)
    (case z_list => k_is)
    (case z_max => k_is)
    (case z_min => k_is)
    (case z_range => k_is)
    (case z_repr => k_is)
    (case z_str => k_is)
    (case z_tuple => k_is)
    (case z_zip => k_is)
    (case g_NotEmpty => k_is); (case x_NotEmpty => k_exc); (case kk_NotEmpty => k_is); (case bb_NotEmpty => k_is); (case tt_NotEmpty => k_is); (case ii_NotEmpty => k_is)
    (case g_NoRoom => k_is); (case x_NoRoom => k_exc); (case kk_NoRoom => k_is); (case bb_NoRoom => k_is); (case tt_NoRoom => k_is); (case ii_NoRoom => k_is)
    (case g_WireError => k_is); (case x_WireError => k_exc); (case kk_WireError => k_is); (case bb_WireError => k_is); (case tt_WireError => k_is); (case ii_WireError => k_is)
    (case s_NotEmpty_NotEmpty => first | rfl | k_is)
    (case s_NotEmpty_NoRoom => first | rfl | k_is)
    (case s_NotEmpty_WireError => first | rfl | k_is)
    (case s_NoRoom_NotEmpty => first | rfl | k_is)
    (case s_NoRoom_NoRoom => first | rfl | k_is)
    (case s_NoRoom_WireError => first | rfl | k_is)
    (case s_WireError_NotEmpty => first | rfl | k_is)
    (case s_WireError_NoRoom => first | rfl | k_is)
    (case s_WireError_WireError => first | rfl | k_is)
#print axioms PySem.Challenge.cw_wireshell_k55_plans_for_changes_holds

