import PyProof.Rows.All
import Wide.All
import OpenK.AllK
import Wide.FinOn
import HandS.ForMost
import HandS.IsInst
import HandS.Walk
import HandS.Style
import HandS.Wide
import HandS.StrMore
import PySem.Challenge.RW_wireshell_k25_which_are_patterns
set_option Elab.async false
set_option maxRecDepth 100000
set_option maxHeartbeats 4000000
set_option linter.all false
/-! ## The prelude: promises of defs under which no repr is under way, combined rules (one a construct, whatever the kinds), readings step by step -/
namespace Mine
open PySem PySem.Spec PyProof.Rows L2
set_option linter.all false
abbrev St := L2.St

/-! ### names of the top -/
/-- a constant of the top -/
def GK (mg : Str → Option Value) (x : Str) (v : V) : Prop := ∃ u, mg x = some u ∧ RelV v u
theorem pe_gk {X : Cx} {x : Str} {v : V} {pos : Pos} (hg : Gl X x) (h : GK X.mg x v) (hd : (x == ("__debug__" : Str)) = false := by decide) : PE X (.Name x pos) (tC v) := by
  obtain ⟨u, hm, r⟩ := h
  exact pe_glob hg hm r hd

/-! ### a def's promise where no repr is under way -/
/-- room for k calls, no repr under way -/
structure Rm (k : Nat) (A : Around) : Prop where
  r : Room k A
  g : A.guards = some []
theorem Rm.mono {j k : Nat} {A : Around} (h : Rm k A) (l : j ≤ k) : Rm j A := ⟨h.r.mono l, h.g⟩
theorem Rm.down {k : Nat} {A : Around} (h : Rm (k + 1) A) (env : Env) : Rm k (A.deeper env) := ⟨h.r.deeper env, h.g⟩
theorem Rm.hu {k : Nat} {A : Around} (h : Rm k A) : A.units + 1 < cLine := hu_of h.r
theorem Rm.u65 {k : Nat} {A : Around} (h : Rm k A) : A.units + 65 < cLine := by
  have := h.r.un
  omega
/-- the promise itself -/
def Keeps (P : Program) (w : World) (K : PySem.W.Frag) (mg : Str → Option Value) (base : Heap) (CX : CXT) (k : Nat) (f : Addr) (fd : FuncData) (ps : List Str) (sp : Sp) : Prop :=
  (∀ vs H Q E, sp vs H Q E → vs.length = ps.length) ∧
  ∀ (A : Around) (outer : List Env) (s : Shared) (H : Hp) (args : Args) (us : List Value) (vs : List V) (Q : VK) (E : XK),
    Rm k A → Env0 P w K mg base A outer s H → BindsTo s fd args (ps.zip us) → Vals vs us → sp vs H Q E →
      codeAny (model P w) A (.call (.ref f) args) (CR CX outer P w H s Q E) s
/-- a def of the text keeps it, if its body's reading holds at each entry -/
theorem keeps_of {CX : CXT} {P : Program} {w : World} {K : PySem.W.Frag} {mg : Str → Option Value} {base : Heap} {k : Nat} {x qual : Str} {st : Stmt} {f : Addr} {fd : FuncData} {N ps : List Str} {sp : Sp}
    (F : Fun K x qual st f fd) (S : FnScope N ps (defScope st)) (len : ∀ vs H Q E, sp vs H Q E → vs.length = ps.length)
    (body : ∀ (cdv : Value) (A : Around) (outer : List Env) (s : Shared) (H : Hp) (vs : List V) (Q : VK) (E : XK), Rm k (A.deeper (envOfC qual (defScope st) s.heap.objs.size f cdv)) → sp vs H Q E →
      ∃ t, PSs (cxOf CX P w K mg base N qual (defScope st) f cdv A outer s H E) (defBody st) t ∧ t { nx := fun _ H' => Q .non H', rt := Q } (start N vs) H) :
    Keeps P w K mg base CX (k + 1) f fd ps sp := by
  obtain ⟨_, _, kV, doc, pm, an, cdv, ct, _, rfl, lk, hcd⟩ := F.ex
  refine And.intro len ?_
  intro A outer s H args us vs Q E hr e0 hb rv hsp
  have kp : ∀ b o, base.get? b = some o → s.heap.get? b = some o := fun b o e => (e0.bs b o e).1
  have inK : K.In s.heap := PySem.W.Frag.In.keeps e0.mod.kin kp
  have kinds : ∀ q ∈ ps.zip us, (defScope st).names.lookup q.1 = some .local ∨
      ((defScope st).names.lookup q.1 = some .cell ∧ ((cellsFrom (s.heap.objs.size + 1) (defScope st).names []).lookup q.1).isSome = true) := by
    intro q hq
    have hmem := (List.of_mem_zip (show (q.1, q.2) ∈ ps.zip us from hq)).1
    cases S.par q.1 hmem with
    | inl h => exact Or.inl h
    | inr h => exact Or.inr ⟨h, PySem.W.cellsFrom_some _ _ _ (Or.inl h)⟩
  refine codeAny_call_function hr.r.depth (inK _ _ lk) rfl S.co S.gen rfl (PySem.W.codeRec_of inK hcd) ?_
  refine hb _ _ _ _ ?_
  refine wpAny_newFunctionEnv_cells S.kind kinds ?_
  rintro env rfl s1 x1
  refine And.intro (Heap.NoLimit.keeps e0.mod.nolimit fun b o e => x1.toInCall.keep b o (kp b o e)) ?_
  refine codeAny_func ?_
  obtain ⟨t, pt, red⟩ := body cdv A outer s H vs Q E (hr.down _) hsp
  have I0 := inv_start (CX := CX) (E := E) (K := K) (mg := mg) S hr.r.hd e0 (len vs H Q E hsp) rv x1
  refine wpAny_mono (pt.run [] s1 _ H _ I0 red) ?_ (fun _ _ h => h)
  intro fl s2 hfl
  cases fl with
  | ret u =>
    obtain ⟨v, σ2, H2, J, r2, q2⟩ := hfl
    exact ⟨v, H2, J.os, J.bare, J.base, J.hok, r2, q2⟩
  | next =>
    obtain ⟨σ2, H2, J, q2⟩ := hfl
    exact ⟨V.non, H2, J.os, J.bare, J.base, J.hok, rfl, q2⟩
  | brk =>
    obtain ⟨σ2, H2, J, q2⟩ := hfl
    exact False.elim q2
  | cont =>
    obtain ⟨σ2, H2, J, q2⟩ := hfl
    exact False.elim q2

/-- where nothing that is raised leaves it -/
theorem keeps0_of {P : Program} {w : World} {K : PySem.W.Frag} {mg : Str → Option Value} {base : Heap} {k : Nat} {x qual : Str} {st : Stmt} {f : Addr} {fd : FuncData} {N ps : List Str} {sp : Sp}
    (F : Fun K x qual st f fd) (S : FnScope N ps (defScope st)) (len : ∀ vs H Q E, sp vs H Q E → vs.length = ps.length)
    (body : ∀ (cdv : Value) (A : Around) (outer : List Env) (s : Shared) (H : Hp) (vs : List V) (Q : VK) (E : XK), Rm k (A.deeper (envOfC qual (defScope st) s.heap.objs.size f cdv)) → sp vs H Q E →
      ∃ t, PSs (cxOf CX0 P w K mg base N qual (defScope st) f cdv A outer s H E).nox (defBody st) t ∧ t { nx := fun _ H' => Q .non H', rt := Q } (start N vs) H) :
    Keeps P w K mg base CX0 (k + 1) f fd ps sp := by
  refine keeps_of F S len ?_
  intro cdv A outer s H vs Q E hr hsp
  obtain ⟨t, h1, h2⟩ := body cdv A outer s H vs Q E hr hsp
  exact ⟨t, h1.nox, h2⟩

/-! ### defs of the top, by name -/
/-- a def of the top -/
def DefAt (K : PySem.W.Frag) (mg : Str → Option Value) (x : Str) (ps : List Str) (st : Stmt) : Prop :=
  ∃ (f : Addr) (fd : FuncData), Fun K x x st f fd ∧ mg x = some (.ref f) ∧ Binds K fd ps [] ∧ ∀ (s : Shared) (us : List Value), us.length = ps.length → BindsTo s fd ⟨us, []⟩ (ps.zip us)
theorem DefAt.mk {K : PySem.W.Frag} {mg : Str → Option Value} {x : Str} {ps : List Str} {st : Stmt} {f : Addr} {oc : Value} {od an : Option Addr} {osl : Array (Option Value)} {kV doc pm cdv ct : Value}
    (l : K.lookup f = some ⟨oc, od, .func (PySem.W.fnOf x x (defArgs st) (defBody st) (defScope st) .none kV doc pm an cdv ct), osl⟩) (c : PySem.W.codeIn K cdv x = true) (k : PySem.W.keepIn K (.ref f) = true) (hm : mg x = some (.ref f))
    (b : ∀ (kV doc pm : Value) (an : Option Addr) (cdv ct : Value) (us : List Value), us.length = ps.length → bindArgs (PySem.W.fnOf x x (defArgs st) (defBody st) (defScope st) .none kV doc pm an cdv ct) ⟨us, []⟩ = pure (ps.zip us)) : DefAt K mg x ps st := by
  have F := fun_mk (st := st) l c k
  exact ⟨f, _, F, hm, F.binds b, fun s us hl => .of_eq (b _ _ _ _ _ _ us hl)⟩
/-- a def of the top that keeps a promise -/
def Cal (P : Program) (w : World) (K : PySem.W.Frag) (mg : Str → Option Value) (base : Heap) (CX : CXT) (k : Nat) (x : Str) (st : Stmt) (ps : List Str) (sp : Sp) : Prop :=
  ∃ (f : Addr) (fd : FuncData), Fun K x x st f fd ∧ mg x = some (.ref f) ∧ Binds K fd ps [] ∧ Keeps P w K mg base CX k f fd ps sp
theorem cal {P : Program} {w : World} {K : PySem.W.Frag} {mg : Str → Option Value} {base : Heap} {CX : CXT} {k : Nat} {x : Str} {st : Stmt} {ps : List Str} {sp : Sp} (D : DefAt K mg x ps st)
    (h : ∀ {f : Addr} {fd : FuncData}, Fun K x x st f fd → Keeps P w K mg base CX k f fd ps sp) : Cal P w K mg base CX k x st ps sp := by
  obtain ⟨f, fd, F, hm, B, _⟩ := D
  exact ⟨f, fd, F, hm, B, h F⟩
section
variable {X : Cx} {CX : CXT} {k : Nat} {ps : List Str} {sp : Sp} {E : XK} {x : Str} {st : Stmt} {p pos : Pos} {e : Expr} {es : List Expr} {t tk : TA} {kws : List Keyword}
/-- the callee runs, whatever way its arguments were bound -/
theorem run_keeps {pins : List (Addr × Obj)} {σ : St} {H : Hp} {s : Shared} {Q : VK} {args : List Value} {kwargs : List (Str × Value)} {us : List Value} {vs : List V} {f : Addr} {fd : FuncData} (O : Keeps X.prog X.w X.K X.mg X.base CX k f fd ps sp)
    (hr : Rm k X.A) (hx : Passes CX X E) (I : Inv X pins σ H s) (b : BindsTo s fd ⟨args, kwargs⟩ (ps.zip us)) (r : Vals vs us) (h : sp vs H Q E) :
    wpAny (model X.prog X.w) X.A (call (.ref f) args kwargs) (EP X pins σ Q) X.xe s := by
  have run := O.2 X.A X.stack s H ⟨args, kwargs⟩ us vs Q E hr I.env0 b r h
  refine wpAny_call (codeAny_mono run ?_)
  intro res s2 hres
  match res, hres with
  | .error e, hres => exact hx pins σ H s e s2 I hres
  | .ok (.ret u), hres => exact I.after hres
theorem pe_cal (C : Cal X.prog X.w X.K X.mg X.base CX k x st ps sp) (hr : Rm k X.A) (hg : Gl X x) (hx : Passes CX X E) (ha : PA X (e :: es) t)
    (hdb : (x == ("__debug__" : Str)) = false := by decide) (he : starEach (e :: es) X.env = (false, eval e X.env) :: starEach es X.env := by rfl) (hpl : (backTo pos (starEach es X.env)).any (·.1) = false := by rfl) :
    PE X (.Call (.Name x p) (e :: es) [] pos) (tCall sp [] E t) := by
  obtain ⟨f, fd, F, hm, B, O⟩ := C
  constructor
  intro pins s σ H Q I h
  refine wpAny_Call_Name_kw (ld_glob I hg hm ?_ hdb)
  refine PySem.W.callWith_K (h₀ := X.base) I.ok.mod.kin F.kp (thn (ha.run pos pins s σ H _ I h) ?_) he hpl
  rintro us s1 ⟨vs, H1, I1, r, q⟩
  refine And.intro I1.kIn ?_
  have q' : sp vs H1 Q E := by
    have q0 : sp (vs ++ []) H1 Q E := q
    rwa [List.append_nil] at q0
  have hl : (us ++ []).length = ps.length := by
    rw [List.append_nil, ← Vals.length r]
    exact O.1 _ _ _ _ q'
  have b := B s1 us I1.kIn hl
  rw [List.append_nil] at b
  exact run_keeps O hr hx I1 b r q'
theorem pe_cal0 (C : Cal X.prog X.w X.K X.mg X.base CX k x st ps sp) (hr : Rm k X.A) (hg : Gl X x) (hx : Passes CX X E)
    (hdb : (x == ("__debug__" : Str)) = false := by decide) : PE X (.Call (.Name x p) [] [] pos) (tCall sp [] E tNil) := by
  obtain ⟨f, fd, F, hm, B, O⟩ := C
  constructor
  intro pins s σ H Q I h
  have q' : sp [] H Q E := h
  refine wpAny_Call_Name_kw (ld_glob I hg hm ?_ hdb)
  have b := B s [] I.kIn (show ([] ++ [] : List Value).length = ps.length from O.1 _ _ _ _ q')
  exact PySem.W.callWith_K0 I.kIn F.kp (run_keeps (us := []) O hr hx I b .nil q')
/-- positional values, then the keywords' values by their places -/
def gK {α : Type} (pm : List Nat) (us ws : List α) : List α := us ++ pm.filterMap fun i => ws[i]?
theorem gK_rel {pm : List Nat} {vs : List V} {us : List Value} {zs : List V} {ws : List Value} (r : Vals vs us) (q : Vals zs ws) : Vals (gK pm vs zs) (gK pm us ws) := by
  unfold gK
  refine Vals.append r ?_
  induction pm with
  | nil => exact .nil
  | cons i pm ih =>
    rw [List.filterMap_cons, List.filterMap_cons]
    cases e : zs[i]? with
    | none => rw [Vals.none_of q e]; exact ih
    | some z =>
      obtain ⟨u, e1, e2⟩ := Vals.get q e
      rw [e1]
      exact .cons e2 ih
def KwOk (x : Str) (st : Stmt) (ps : List Str) (n : Nat) (ks : List Str) (pm : List Nat) : Prop :=
  ∀ (kV doc pmv : Value) (an : Option Addr) (cdv ct : Value) (us ws : List Value), us.length = n → ws.length = ks.length →
    bindArgs (PySem.W.fnOf x x (defArgs st) (defBody st) (defScope st) .none kV doc pmv an cdv ct) ⟨us, ks.zip ws⟩ = pure (ps.zip (gK pm us ws))
def tCalK (n m : Nat) (pm : List Nat) (sp : Sp) (E : XK) (t tk : TA) : TE := fun σ H Q => t σ H fun vs H1 => tk σ H1 fun zs H2 => vs.length = n ∧ zs.length = m ∧ sp (gK pm vs zs) H2 Q E
theorem kw_binds {K : PySem.W.Frag} {f : Addr} {fd : FuncData} {n : Nat} {ks : List Str} {pm : List Nat} (F : Fun K x x st f fd) (hb : KwOk x st ps n ks pm) (s : Shared) {us ws : List Value} (h1 : us.length = n) (h2 : ws.length = ks.length) :
    BindsTo s fd ⟨us, ks.zip ws⟩ (ps.zip (gK pm us ws)) := by
  obtain ⟨_, _, kV, doc, pmv, an, cdv, ct, _, rfl, _, _⟩ := F.ex
  exact .of_eq (hb kV doc pmv an cdv ct us ws h1 h2)
theorem pe_calK {n : Nat} {ks : List Str} {pm : List Nat} (C : Cal X.prog X.w X.K X.mg X.base CX k x st ps sp) (hr : Rm k X.A) (hg : Gl X x) (hb : KwOk x st ps n ks pm) (hx : Passes CX X E)
    (ha : PA X (e :: es) t) (hkw : PK X kws tk) (hall : (backToKw pos (keywordEach kws X.env)).all (·.1.isSome) = true := by rfl) (hks : (backToKw pos (keywordEach kws X.env)).filterMap (·.1) = ks := by rfl)
    (hdb : (x == ("__debug__" : Str)) = false := by decide) (he : starEach (e :: es) X.env = (false, eval e X.env) :: starEach es X.env := by rfl)
    (hpl : ((backTo pos (starEach (e :: es) X.env)).any (·.1) || (backToKw pos (keywordEach kws X.env)).any (·.1.isNone)) = false := by rfl) :
    PE X (.Call (.Name x p) (e :: es) kws pos) (tCalK n ks.length pm sp E t tk) := by
  obtain ⟨f, fd, F, hm, B, O⟩ := C
  constructor
  intro pins s σ H Q I h
  refine wpAny_Call_Name_kw (ld_glob I hg hm ?_ hdb)
  refine PySem.W.callWith_KW (h₀ := X.base) I.ok.mod.kin F.kp hall (thn (ha.run pos pins s σ H _ I h) ?_) hpl he
  rintro us s1 ⟨vs, H1, I1, r, q⟩
  refine thn (hkw.run pos pins s1 σ H1 _ I1 q) ?_
  rintro ws s2 ⟨zs, H2, I2, rz, l1, l2, q2⟩
  refine And.intro I2.kIn ?_
  rw [hks]
  exact run_keeps O hr hx I2 (kw_binds F hb s2 (by have := Vals.length r; simpa [this] using l1) (by rw [← Vals.length rz]; exact l2)) (gK_rel r rz) q2
theorem pe_calK0 {ks : List Str} {pm : List Nat} (C : Cal X.prog X.w X.K X.mg X.base CX k x st ps sp) (hr : Rm k X.A) (hg : Gl X x) (hb : KwOk x st ps 0 ks pm) (hx : Passes CX X E)
    (hkw : PK X kws tk) (hall : (backToKw pos (keywordEach kws X.env)).all (·.1.isSome) = true := by rfl) (hks : (backToKw pos (keywordEach kws X.env)).filterMap (·.1) = ks := by rfl)
    (hdb : (x == ("__debug__" : Str)) = false := by decide)
    (hpl : ((backTo pos (starEach [] X.env)).any (·.1) || (backToKw pos (keywordEach kws X.env)).any (·.1.isNone)) = false := by rfl) :
    PE X (.Call (.Name x p) [] kws pos) (tCalK 0 ks.length pm sp E tNil tk) := by
  obtain ⟨f, fd, F, hm, B, O⟩ := C
  constructor
  intro pins s σ H Q I h
  refine wpAny_Call_Name_kw (ld_glob I hg hm ?_ hdb)
  refine PySem.W.callWith_KW0 (h₀ := X.base) I.ok.mod.kin F.kp hall ?_ hpl
  have h' : tk σ H fun zs H2 => ([] : List V).length = 0 ∧ zs.length = ks.length ∧ sp (gK pm [] zs) H2 Q E := h
  refine thn (hkw.run pos pins s σ H _ I h') ?_
  rintro ws s2 ⟨zs, H2, I2, rz, l1, l2, q2⟩
  refine And.intro I2.kIn ?_
  rw [hks]
  exact run_keeps (us := gK pm [] ws) O hr hx I2 (kw_binds F hb s2 (us := []) rfl (by rw [← Vals.length rz]; exact l2)) (gK_rel .nil rz) q2
end
/-! ### ways that meet again: what follows is shown once -/
def tMeet (t u : TS) : TS := fun D σ H => ∃ M : St → Hp → Prop, t { D with nx := M } σ H ∧ ∀ σ' H', M σ' H' → u D σ' H'
theorem pss_meet {X : Cx} {st : Stmt} {rest : List Stmt} {t u : TS} (h1 : PS X st t) (h2 : PSs X rest u) : PSs X (st :: rest) (tMeet t u) := by
  constructor
  rintro pins s σ H D I ⟨M, hM, hu⟩
  have first := h1.run pins s σ H { D with nx := M } I hM
  refine wpAny_execs_cons (thn first ?_)
  intro f s1 q
  match f, q with
  | .next, ⟨σ', H', I', q⟩ => exact h2.run pins s1 σ' H' D I' (hu σ' H' q)
  | .ret v, q => exact q
  | .brk, q => exact q
  | .cont, q => exact q
/-! ### promises by the number of parameters -/
abbrev sp1 (Φ : V → Hp → VK → Prop) : Sp := fun vs H Q _ => ∃ a, vs = [a] ∧ Φ a H Q
abbrev sp2 (Φ : V → V → Hp → VK → Prop) : Sp := fun vs H Q _ => ∃ a b, vs = [a, b] ∧ Φ a b H Q
abbrev sp3 (Φ : V → V → V → Hp → VK → Prop) : Sp := fun vs H Q _ => ∃ a b c, vs = [a, b, c] ∧ Φ a b c H Q
abbrev sp4 (Φ : V → V → V → V → Hp → VK → Prop) : Sp := fun vs H Q _ => ∃ a b c d, vs = [a, b, c, d] ∧ Φ a b c d H Q
abbrev sp5 (Φ : V → V → V → V → V → Hp → VK → Prop) : Sp := fun vs H Q _ => ∃ a b c d e, vs = [a, b, c, d, e] ∧ Φ a b c d e H Q
abbrev sp6 (Φ : V → V → V → V → V → V → Hp → VK → Prop) : Sp := fun vs H Q _ => ∃ a b c d e f, vs = [a, b, c, d, e, f] ∧ Φ a b c d e f H Q

/-! ### the law's call -/
theorem law_keeps {P : Program} {w : World} {K : PySem.W.Frag} {mg mb : Str → Option Value} {k : Nat} {fa a : Addr} {fd : FuncData} {x : Str} {sp : Sp} {s₁ : Shared} {vs : List Value} {ns : List Int}
    (kin : K.In s₁.heap) (gns : s₁.heap.Ns mainGlobals mg) (bns : s₁.heap.Ns builtinsNs mb) (bb : ∀ x : Str, x ≠ "__name__" → mb x = bootBuiltins x) (nl : s₁.heap.NoLimit) (ng : s₁.gens = #[])
    (obj : s₁.heap.get? a = some { cls := .type "list", data := .seq vs.toArray }) (his : IntsAre vs ns) (short : ns.length ≤ sizeLine) (room : Room k callerA)
    (F : ∀ base : Heap, K.In base → base.Ns mainGlobals mg → Keeps P w K mg base CX0 k fa fd [x] sp) (bind : ∀ (s : Shared) (u : Value), BindsTo s fd ⟨[u], []⟩ [(x, u)])
    (hsp : ∀ H : Hp, SqL K H a (ns.map V.int) → sp [.ref a] H (fun v _ => v = .bl true) fun _ _ _ => False) :
    codeAny (model P w) callerA (.call (.ref fa) ⟨[.ref a], []⟩) (fun r s' => r = .ok (.ret (.bool true)) ∧ OldK s₁.heap s'.heap ∧ s'.os = s₁.os ∧ AllBare s'.gens) s₁ := by
  have rv := vals_ints his
  have hlen := his.length
  let o₁ : Obj := { cls := .type "list", data := .seq vs.toArray }
  let H₁ : Hp := fun b => if b = a ∧ K.lookup a = none then some (.frz o₁ (.lst (ns.map V.int))) else none
  have hit : ∀ {b u}, H₁ b = some u → (b = a ∧ K.lookup a = none) ∧ u = .frz o₁ (.lst (ns.map V.int)) := by
    intro b u e
    by_cases c : b = a ∧ K.lookup a = none
    · rw [show H₁ b = _ from if_pos c] at e
      exact ⟨c, (Option.some.inj e).symm⟩
    · rw [show H₁ b = _ from if_neg c] at e
      cases e
  have seq : SqL K H₁ a (ns.map V.int) := by
    cases lk : K.lookup a with
    | none => exact Or.inl (Or.inr ⟨o₁, if_pos ⟨rfl, lk⟩⟩)
    | some o =>
      have e := (kin a o lk).symm.trans obj
      cases Option.some.inj e
      exact Or.inr ⟨_, vs.toArray, _, lk, rfl, rfl, rfl, (by rw [List.size_toArray, hlen]; exact short), (by simpa using rv)⟩
  have hok : HOk P w H₁ s₁.heap := by
    intro b u e
    obtain ⟨⟨rfl, _⟩, rfl⟩ := hit e
    exact ⟨obj, (by rw [List.length_map]; exact short), vs, _, rv, obj⟩
  have hid : ∀ {b o}, s₁.heap.get? b = some o → H₁ b = none → (hidT s₁.heap H₁).get? b = some o := fun e n => hidT_get e n
  have free : ∀ {b o es ep}, s₁.heap.get? b = some o → o.data = .dict es ep → H₁ b = none := by
    intro b o es ep e d
    cases q : H₁ b with
    | none => rfl
    | some u =>
      obtain ⟨⟨rfl, _⟩, _⟩ := hit q
      rw [obj] at e
      cases e
      cases d
  have nsOf : ∀ {b : Addr} {m : Str → Option Value}, s₁.heap.Ns b m → (hidT s₁.heap H₁).Ns b m := by
    rintro b m ⟨o, es, ep, e, d, r⟩
    exact ⟨o, es, ep, hid e (free e d), d, r⟩
  have kb : K.In (hidT s₁.heap H₁) := by
    intro b o e
    refine hid (kin b o e) ?_
    cases q : H₁ b with
    | none => rfl
    | some u =>
      obtain ⟨⟨rfl, n⟩, _⟩ := hit q
      rw [n] at e
      cases e
  have md : Mod K mg (hidT s₁.heap H₁) := by
    obtain ⟨mc, l1, l2⟩ := nl
    exact ⟨kb, nsOf gns, ⟨mb, nsOf bns, bb⟩, ⟨mc, nsOf l1, l2⟩⟩
  have e0 : Env0 P w K mg (hidT s₁.heap H₁) callerA [] s₁ H₁ :=
    ⟨rfl, md, fun _ _ e => of_hidT e, Nat.le_of_eq (hidT_size _ _), trivial, fun b hb => absurd (show b ∈ ([] : List Addr) from hb) List.not_mem_nil, hok, .of_eq ng⟩
  have run := (F _ kb (nsOf gns)).2 callerA [] s₁ H₁ ⟨[.ref a], []⟩ [.ref a] [.ref a] _ _ ⟨room, rfl⟩ e0 (bind s₁ (.ref a)) (.cons rfl .nil) (hsp H₁ seq)
  refine codeAny_mono run ?_
  intro res s2 hres
  match res, hres with
  | .error e, hres => exact hres.elim
  | .ok (.ret u), hres =>
    obtain ⟨v, H2, os, bare, un, hok2, rr, q⟩ := hres
    cases (show v = .bl true from q)
    cases (show u = Value.bool true from rr)
    refine ⟨rfl, OldK.of_keep ?_, os, bare⟩
    intro b o e
    cases q2 : H₁ b with
    | none => exact un.keep b o e q2 (fun z => absurd (show b ∈ ([] : List Addr) from z) List.not_mem_nil) List.not_mem_nil
    | some z =>
      have z2 := (hit q2).2
      subst z2
      have e1 := (hok b _ q2).1
      have e2 := (hok2 b _ (un.frzs b _ _ q2)).1
      rw [e] at e1
      cases Option.some.inj e1
      exact e2
/-- the goal that the head leaves, from the law's promise -/
theorem walk_keeps {l : PySem.W.OpenLaw} {n k : Nat} {q : Program} {loose : List Str} {XP : (Str → Option Value) → Heap → Prop} {YP : World → Heap → Prop} {d : DefRec} {K : Params → PySem.W.Frag} {sp : World → Sp} {x : Str}
    (hn : l.most = some n) (hn2 : n ≤ sizeLine) (hdf : d.params.defaults = []) (hr : Room k callerA) (hY : ∀ (w : World) (h : Heap), YP w h → (K w.params).In h)
    (F : ∀ (w : World) (mg : Str → Option Value) (fa : Addr) (h : Heap), (K w.params).In h → h.Ns mainGlobals mg → mg d.name = some (.ref fa) →
      ∃ fd : FuncData, (∀ (s : Shared) (u : Value), BindsTo s fd ⟨[u], []⟩ [(x, u)]) ∧ ∀ base : Heap, (K w.params).In base → base.Ns mainGlobals mg → Keeps l.prog w (K w.params) mg base CX0 k fa fd [x] (sp w))
    (hsp : ∀ (w : World) (H : Hp) (a : Addr) (ns : List Int), ns.length ≤ n → SqL (K w.params) H a (ns.map V.int) → sp w [.ref a] H (fun v _ => v = .bl true) fun _ _ _ => False) :
    PySem.W.WalkO q loose XP YP l.row.toRowW d [] (fun f vs => PySem.call f vs) := by
  refine Att.attach_call hn hdf ?_
  intro w s₀ s₁ mg mb fa o pm cd doc a vs ns G Y _ _ _ hmg obj his hl ng
  obtain ⟨fd, hb, hF⟩ := F w mg fa _ (hY w _ Y) G.T.g hmg
  exact law_keeps (hY w _ Y) G.T.g G.T.b G.T.builtins G.T.nolimit ng obj his (Nat.le_trans hl hn2) hr hF hb fun H hS => hsp w H a ns hl hS
end Mine

/-! ## Operators whatever the kinds -/
namespace Mine
open PySem PySem.Spec PyProof.Rows L2
set_option linter.all false
section
variable {X : Cx}
def xAdd (K : PySem.W.Frag) : R2 := fun x y H Q => match x, y with
  | .int i, .int j => Q (.int (i + j)) H
  | .str a, .str b => a.length + b.length ≤ sizeLine ∧ Q (.str (a ++ b)) H
  | .ref a, .ref b => rCat (.ref a) (.ref b) H Q ∨ rCatT K (.ref a) (.ref b) H Q
  | _, _ => False
theorem oAdd₀ : OpR X (binaryOp .Add) (xAdd X.K) := by
  intro pins s σ H x y v u Q I rx ry h
  cases x <;> cases y <;> first
    | exact False.elim h
    | exact op_add pins s σ H _ _ v u Q I rx ry ⟨_, _, rfl, rfl, h⟩
    | exact op_add_str pins s σ H _ _ v u Q I rx ry ⟨_, _, rfl, rfl, h⟩
    | exact (OpR.or op_cat op_catT) pins s σ H _ _ v u Q I rx ry h
def xSub : R2 := fun x y H Q => match x, y with
  | .int i, .int j => Q (.int (i - j)) H
  | _, _ => False
theorem oSub : OpR X (binaryOp .Sub) xSub := by
  intro pins s σ H x y v u Q I rx ry h
  cases x <;> cases y <;> first
    | exact False.elim h
    | exact op_sub pins s σ H _ _ v u Q I rx ry ⟨_, _, rfl, rfl, h⟩
theorem mulI : OpR X (binaryOp .Mult) (rI IntMulOk fun i j => .int (i * j)) := opI fun _ _ _ _ _ _ _ hc q => mul_int q hc
theorem mulS : OpR X (binaryOp .Mult) (fun x y H Q => ∃ a k, x = .str a ∧ y = .int k ∧ MulOk a k ∧ Q (.str (Txt.mul a k)) H) := by
  intro pins s σ H x y v u Q I rx ry h
  obtain ⟨a, k, rfl, rfl, ok, q⟩ := h
  obtain ⟨t, rfl⟩ := rx
  obtain ⟨t', rfl⟩ := ry
  exact SB.mul ok fun t2 k2 => ⟨.str _, H, I.tok k2, ⟨_, rfl⟩, q⟩
def xMul (K : PySem.W.Frag) : R2 := fun x y H Q => match x, y with
  | .int i, .int j => IntMulOk i j ∧ Q (.int (i * j)) H
  | .str a, .int k => MulOk a k ∧ Q (.str (Txt.mul a k)) H
  | .ref a, .int k => rRep (.ref a) (.int k) H Q
  | _, _ => False
theorem oMul₀ : OpR X (binaryOp .Mult) (xMul X.K) := by
  intro pins s σ H x y v u Q I rx ry h
  cases x <;> cases y <;> first
    | exact False.elim h
    | exact mulI pins s σ H _ _ v u Q I rx ry ⟨_, _, rfl, rfl, h⟩
    | exact mulS pins s σ H _ _ v u Q I rx ry ⟨_, _, rfl, rfl, h⟩
    | exact op_rep pins s σ H _ _ v u Q I rx ry h
def xMod : R2 := fun x y H Q => match x, y with
  | .int i, .int j => 0 < j ∧ Q (.int (i % j)) H
  | _, _ => False
theorem oMod : OpR X (binaryOp .Mod) xMod := by
  intro pins s σ H x y v u Q I rx ry h
  cases x <;> cases y <;> first
    | exact False.elim h
    | exact op_mod pins s σ H _ _ v u Q I rx ry ⟨_, _, rfl, rfl, h⟩
def xDiv : R2 := fun x y H Q => match x, y with
  | .int i, .int j => CDivW i j ∧ Q (.int (i / j)) H
  | _, _ => False
theorem oDiv : OpR X (binaryOp .FloorDiv) xDiv := by
  intro pins s σ H x y v u Q I rx ry h
  cases x <;> cases y <;> first
    | exact False.elim h
    | exact op_fdivW pins s σ H _ _ v u Q I rx ry ⟨_, _, rfl, rfl, h⟩
def PowOk (i j : Int) : Prop := 0 ≤ j ∧ (Builtin.Int.intBits i : Int) * j ≤ 2 ^ 27
def xPow : R2 := fun x y H Q => match x, y with
  | .int i, .int j => PowOk i j ∧ Q (.int (i ^ j.toNat)) H
  | _, _ => False
theorem powI : OpR X (binaryOp .Pow) (rI PowOk fun i j => .int (i ^ j.toNat)) := opI fun _ _ _ _ _ _ _ hc q => pow_int hc.1 hc.2 q
theorem oPow : OpR X (binaryOp .Pow) xPow := by
  intro pins s σ H x y v u Q I rx ry h
  cases x <;> cases y <;> first
    | exact False.elim h
    | exact powI pins s σ H _ _ v u Q I rx ry ⟨_, _, rfl, rfl, h⟩
/-! ### comparisons -/
/-- two lists one of which is empty: their lengths tell -/
def rLen2 (K : PySem.W.Frag) (f : Bool → Bool) : R2 := fun x y H Q => ∃ p q xs ys, x = .ref p ∧ y = .ref q ∧ SqL K H p xs ∧ SqL K H q ys ∧ (xs = [] ∨ ys = []) ∧ Q (.bl (f (decide (xs.length = ys.length)))) H
theorem eqLen (hu : X.A.units < cLine) : OpR X (compareOp .Eq) (rLen2 X.K id) := by
  intro pins s σ H x y v u Q I rx ry h
  obtain ⟨p, q, xs, ys, rfl, rfl, hx, hy, he, k⟩ := h
  cases rx
  cases ry
  obtain ⟨ix, vx, px, _⟩ := I.list hx
  obtain ⟨iy, vy, py, _⟩ := I.list hy
  have lx := vx.length
  have ly := vy.length
  by_cases e : xs.length = ys.length
  · have x0 : ix.toArray.size = 0 := by rcases he with rfl | rfl <;> simp_all
    rw [decide_eq_true e] at k
    refine SeqAt.eq_listAt (e := fun _ => true) px.isList py.isList (by rw [List.size_toArray, List.size_toArray]; omega) hu (fun j h1 _ => by omega) ?_
    rw [x0]
    exact ⟨.bl _, H, I, rfl, k⟩
  · rw [decide_eq_false e] at k
    exact SeqAt.eq_list_lengthsAt px.isList py.isList (by rw [List.size_toArray, List.size_toArray]; simp; omega) hu ⟨.bl _, H, I, rfl, k⟩
theorem neLen (hu : X.A.units < cLine) : OpR X (compareOp .NotEq) (rLen2 X.K (!·)) := by
  intro pins s σ H x y v u Q I rx ry h
  obtain ⟨p, q, xs, ys, rfl, rfl, hx, hy, he, k⟩ := h
  cases rx
  cases ry
  obtain ⟨ix, vx, px, _⟩ := I.list hx
  obtain ⟨iy, vy, py, _⟩ := I.list hy
  have lx := vx.length
  have ly := vy.length
  by_cases e : xs.length = ys.length
  · have x0 : ix.toArray.size = 0 := by rcases he with rfl | rfl <;> simp_all
    rw [decide_eq_true e] at k
    refine SeqAt.RcNeAt.lists (e := fun _ => true) px.isList py.isList (by rw [List.size_toArray, List.size_toArray]; omega) hu (fun j h1 _ => by omega) _ _ _ _ ?_
    rw [x0]
    exact ⟨.bl _, H, I, rfl, k⟩
  · rw [decide_eq_false e] at k
    exact SeqAt.RcNeAt.lists_lengths px.isList py.isList (by rw [List.size_toArray, List.size_toArray]; simp; omega) hu _ _ _ _ ⟨.bl _, H, I, rfl, k⟩
def xEq (K : PySem.W.Frag) : R2 := fun x y H Q => (scal x y = true ∧ Q (.bl (decide (x = y))) H) ∨ rEqD K x y H Q ∨ rLen2 K id x y H Q
theorem oEq₀ (hu : X.A.units + 65 < cLine) : OpR X (compareOp .Eq) (xEq X.K) := OpR.or op_eq (OpR.or (op_eqD (by omega)) (eqLen (by omega)))
def xNe (K : PySem.W.Frag) : R2 := fun x y H Q => (scal x y = true ∧ Q (.bl (!decide (x = y))) H) ∨ rNeD K x y H Q ∨ rLen2 K (!·) x y H Q
theorem oNe₀ (hu : X.A.units + 65 < cLine) : OpR X (compareOp .NotEq) (xNe X.K) := OpR.or op_ne (OpR.or (op_neD (by omega)) (neLen (by omega)))
def xLt : R2 := fun x y H Q => match x, y with
  | .int i, .int j => Q (.bl (decide (i < j))) H
  | .str a, .str b => Q (.bl (decide (a.cps.toList < b.cps.toList))) H
  | _, _ => False
theorem oLt : OpR X (compareOp .Lt) xLt := by
  intro pins s σ H x y v u Q I rx ry h
  cases x <;> cases y <;> first
    | exact False.elim h
    | exact op_lt pins s σ H _ _ v u Q I rx ry ⟨_, _, rfl, rfl, h⟩
    | exact op_lt_str pins s σ H _ _ v u Q I rx ry ⟨_, _, rfl, rfl, h⟩
def xLe : R2 := fun x y H Q => match x, y with
  | .int i, .int j => Q (.bl (decide (i ≤ j))) H
  | .str a, .str b => Q (.bl (!decide (b.cps.toList < a.cps.toList))) H
  | _, _ => False
theorem oLe : OpR X (compareOp .LtE) xLe := by
  intro pins s σ H x y v u Q I rx ry h
  cases x <;> cases y <;> first
    | exact False.elim h
    | exact op_le pins s σ H _ _ v u Q I rx ry ⟨_, _, rfl, rfl, h⟩
    | exact op_le_str pins s σ H _ _ v u Q I rx ry ⟨_, _, rfl, rfl, h⟩
def xGt : R2 := fun x y H Q => match x, y with
  | .int i, .int j => Q (.bl (decide (j < i))) H
  | .str a, .str b => Q (.bl (decide (b.cps.toList < a.cps.toList))) H
  | _, _ => False
theorem oGt : OpR X (compareOp .Gt) xGt := by
  intro pins s σ H x y v u Q I rx ry h
  cases x <;> cases y <;> first
    | exact False.elim h
    | exact op_gt pins s σ H _ _ v u Q I rx ry ⟨_, _, rfl, rfl, h⟩
    | exact op_gt_str pins s σ H _ _ v u Q I rx ry ⟨_, _, rfl, rfl, h⟩
def xGe : R2 := fun x y H Q => match x, y with
  | .int i, .int j => Q (.bl (decide (j ≤ i))) H
  | .str a, .str b => Q (.bl (!decide (a.cps.toList < b.cps.toList))) H
  | _, _ => False
theorem oGe : OpR X (compareOp .GtE) xGe := by
  intro pins s σ H x y v u Q I rx ry h
  cases x <;> cases y <;> first
    | exact False.elim h
    | exact op_ge pins s σ H _ _ v u Q I rx ry ⟨_, _, rfl, rfl, h⟩
    | exact op_ge_str pins s σ H _ _ v u Q I rx ry ⟨_, _, rfl, rfl, h⟩
/-- a text stands in another one -/
def inS (a b : Str) : Bool := !(Builtin.Str.occurrences b a 0 b.length 1).isEmpty
theorem inS_sign (c : Nat) (z : Str) : inS ⟨#[c]⟩ z = decide (c ∈ z.cps.toList) := PySem.StrLaws.found_one z c
def xIn (K : PySem.W.Frag) : R2 := fun x y H Q => match y with
  | .str b => ∃ a, x = .str a ∧ Q (.bl (inS a b)) H
  | .ref p => rIn K false x (.ref p) H Q
  | _ => False
theorem oIn₀ : OpR X (compareOp .In) (xIn X.K) := by
  intro pins s σ H x y v u Q I rx ry h
  cases y with
  | str b =>
    obtain ⟨a, rfl, q⟩ := h
    exact op_in_str pins s σ H _ _ v u Q I rx ry ⟨_, _, rfl, rfl, q⟩
  | ref p => exact op_in_seq pins s σ H _ _ v u Q I rx ry h
  | _ => exact False.elim h
def xNotIn (K : PySem.W.Frag) : R2 := fun x y H Q => match y with
  | .str b => ∃ a, x = .str a ∧ Q (.bl (!inS a b)) H
  | .ref p => rIn K true x (.ref p) H Q
  | _ => False
theorem oNotIn₀ : OpR X (compareOp .NotIn) (xNotIn X.K) := by
  intro pins s σ H x y v u Q I rx ry h
  cases y with
  | str b =>
    obtain ⟨a, rfl, q⟩ := h
    exact op_notin_str pins s σ H _ _ v u Q I rx ry ⟨_, _, rfl, rfl, q⟩
  | ref p => exact op_notIn_seq pins s σ H _ _ v u Q I rx ry h
  | _ => exact False.elim h
def xIs : R2 := fun x y H Q => y = .non ∧ Q (.bl (decide (x = .non))) H
theorem oIs : OpR X (compareOp .Is) xIs := op_isN
def xIsNot : R2 := fun x y H Q => y = .non ∧ Q (.bl (!decide (x = .non))) H
theorem oIsNot : OpR X (compareOp .IsNot) xIsNot := op_notN
/-! ### subscripts, slices, len, int, repr, what a for walks -/
def xIx (K : PySem.W.Frag) : R2 := fun x y H Q => match x, y with
  | .str z, .int i => ∃ c, z.length ≤ sizeLine ∧ atI z.cps.toList i = some c ∧ Q (.str ⟨#[c]⟩) H
  | .ref p, .int i => ∃ xs v, (SqL K H p xs ∨ SqT K H p xs) ∧ atI xs i = some v ∧ Q v H
  | _, _ => False
theorem ixX₀ : IxR X (xIx X.K) := by
  intro a b pins s σ H x y v u Q I rx ry h hs
  refine ix_seq a b pins s σ H x y v u Q I rx ry ?_ hs
  cases x <;> cases y <;> first
    | exact False.elim h
    | (obtain ⟨c, h1, h2, q⟩ := h; exact .inr (.inr ⟨_, _, c, rfl, rfl, h1, h2, q⟩))
    | (obtain ⟨xs, v, h1, h2, q⟩ := h
       rcases h1 with h1 | h1
       · exact .inl ⟨_, xs, _, v, rfl, rfl, h1, h2, q⟩
       · exact .inr (.inl ⟨_, xs, _, v, rfl, rfl, h1, h2, q⟩))
def xSl (K : PySem.W.Frag) : V → Option Int → Option Int → Hp → VK → Prop := fun x lo hi H Q => match x with
  | .str z => z.length ≤ sizeLine ∧ Q (.str (cutS z lo hi)) H
  | .ref p => rSlL K (.ref p) lo hi H Q ∨ rSlT K (.ref p) lo hi H Q
  | _ => False
theorem sX₀ : SlR X (xSl X.K) := by
  intro pins s σ H x v vl vu lo hi sl Q I rx hs pl pu h
  refine (SlR.or (SlR.or sl_list sl_tup) sl_str) pins s σ H x v vl vu lo hi sl Q I rx hs pl pu ?_
  cases x with
  | str z => exact .inr ⟨z, rfl, h⟩
  | ref p => exact .inl h
  | _ => exact False.elim h
def xLen (K : PySem.W.Frag) : List V → Hp → VK → Prop := fun xs H Q => ∃ x n, xs = [x] ∧ LenV K x H n ∧ Q (.int (n : Int)) H
theorem call_lenX₀ : CallR X (.builtin "len") (xLen X.K) := call_len
def xInt : List V → Hp → VK → Prop := fun xs H Q => match xs with
  | [.int i] => Q (.int i) H
  | [.bl k] => Q (.int (if k then 1 else 0)) H
  | [.str a] => ∃ n, PySem.intText? a = some n ∧ a.length ≤ 640 ∧ Q (.int n) H
  | _ => False
theorem call_intX : CallR X (.type "int") xInt := by
  intro pins s σ H xs us Q I r h
  match xs, h with
  | [.int i], h => exact call_int1 pins s σ H _ us Q I r (.inl ⟨i, rfl, h⟩)
  | [.bl k], h => exact call_int1 pins s σ H _ us Q I r (.inr ⟨k, rfl, h⟩)
  | [.str a], ⟨n, h1, h2, h3⟩ => exact call_int_str pins s σ H _ us Q I r ⟨a, n, rfl, h1, h2, h3⟩
def xMax : List V → Hp → VK → Prop := fun xs H Q => match xs with
  | [.int i, .int j] => Q (.int (max i j)) H
  | _ => False
theorem call_maxX (hc : X.calm = true) : CallR X (.builtin "max") xMax := by
  intro pins s σ H xs us Q I r h
  match xs, h with
  | [.int i, .int j], h =>
    refine call_max2 hc pins s σ H _ us Q I r ⟨i, j, rfl, ?_⟩
    have e : (if j > i then j else i) = max i j := by omega
    rw [e]
    exact h
def xMin : List V → Hp → VK → Prop := fun xs H Q => match xs with
  | [.int i, .int j] => Q (.int (min i j)) H
  | _ => False
theorem call_minX (hc : X.calm = true) : CallR X (.builtin "min") xMin := by
  intro pins s σ H xs us Q I r h
  match xs, h with
  | [.int i, .int j], h =>
    refine call_min2 hc pins s σ H _ us Q I r ⟨i, j, rfl, ?_⟩
    have e : (if j < i then j else i) = min i j := by omega
    rw [e]
    exact h
/-- what may be shown -/
def Shows (d : PyData) : Prop := d.showable = true ∧ d.hasDict = false ∧ d.depth ≤ 60 ∧ d.shown.length ≤ sizeLine
def xRepr (K : PySem.W.Frag) : List V → Hp → VK → Prop := fun xs H Q => ∃ x d, xs = [x] ∧ Dp K H x d ∧ Shows d ∧ Q (.str d.shown) H
theorem call_reprX₀ (hr : Rm 0 X.A) : CallR X (.builtin "repr") (xRepr X.K) := by
  intro pins s σ H xs us Q I r h
  obtain ⟨x, d, rfl, hd, ⟨h1, h2, h3, h4⟩, q⟩ := h
  obtain ⟨u, rfl, rx⟩ := vals1 r
  obtain ⟨as, rd⟩ := Dp.reads I d x u hd rx
  have hu := hr.r.un
  have hl : d.shown.length ≤ sizeLine := h4
  cases u with
  | ref a =>
    refine repr_of_reads' rd h1 (fun e => by rw [h2] at e; cases e) hr.g (by omega) (fun _ _ e => e) ?_ hl
    intro h' t tk keep
    exact ⟨.str _, H, I.kept keep, ⟨_, rfl⟩, q⟩
  | none => cases rd; exact P.repr_of_none ⟨.str _, H, I.tok _, ⟨_, rfl⟩, q⟩
  | bool b => cases rd; exact P.repr_of_bool ⟨.str _, H, I.tok _, ⟨_, by cases b <;> rfl⟩, q⟩
  | int i t =>
    cases rd
    refine P.repr_of_int ?_ ⟨.str _, H, I.tok _, ⟨_, rfl⟩, q⟩
    simpa [PyData.showable] using h1
  | str z t => cases rd; exact P.repr_of_str ⟨.str _, H, I.tok _, ⟨_, rfl⟩, q⟩ hl
  | _ => cases hd <;> cases rx <;> rename_i h <;> cases h
/-! the same, the written part named -/
variable {K : PySem.W.Frag}
theorem oAdd (e : X.K = K := by rfl) : OpR X (binaryOp .Add) (xAdd K) := by
  subst e
  exact oAdd₀
theorem oMul (e : X.K = K := by rfl) : OpR X (binaryOp .Mult) (xMul K) := by
  subst e
  exact oMul₀
theorem oEq (hu : X.A.units + 65 < cLine) (e : X.K = K := by rfl) : OpR X (compareOp .Eq) (xEq K) := by
  subst e
  exact oEq₀ hu
theorem oNe (hu : X.A.units + 65 < cLine) (e : X.K = K := by rfl) : OpR X (compareOp .NotEq) (xNe K) := by
  subst e
  exact oNe₀ hu
theorem oIn (e : X.K = K := by rfl) : OpR X (compareOp .In) (xIn K) := by
  subst e
  exact oIn₀
theorem oNotIn (e : X.K = K := by rfl) : OpR X (compareOp .NotIn) (xNotIn K) := by
  subst e
  exact oNotIn₀
theorem ixX (e : X.K = K := by rfl) : IxR X (xIx K) := by
  subst e
  exact ixX₀
theorem sX (e : X.K = K := by rfl) : SlR X (xSl K) := by
  subst e
  exact sX₀
theorem call_lenX (e : X.K = K := by rfl) : CallR X (.builtin "len") (xLen K) := by
  subst e
  exact call_lenX₀
theorem call_reprX (hr : Rm 0 X.A) (e : X.K = K := by rfl) : CallR X (.builtin "repr") (xRepr K) := by
  subst e
  exact call_reprX₀ hr
theorem isiX (e : X.K = K := by rfl) : CallR X (.builtin "isinstance") (rIsi K) := by
  subst e
  exact call_isi
theorem isiTX (e : X.K = K := by rfl) : CallR X (.builtin "isinstance") (rIsiT K) := by
  subst e
  exact call_isiT
theorem allX (hc : X.calm = true) (e : X.K = K := by rfl) : CallR X (.builtin "all") (rAll K) := by
  subst e
  exact cr_all hc
theorem anyX (hc : X.calm = true) (e : X.K = K := by rfl) : CallR X (.builtin "any") (rAny K) := by
  subst e
  exact cr_any hc
/-- whatever a for walks: a list, a tuple, a text -/
def iAny (K : PySem.W.Frag) (te : TE) : TI := fun σ H R => iList K te σ H R ∨ iTup K te σ H R ∨ iStr te σ H R
theorem pi_any {tg e : Expr} {te : TE} (he : PE X e te) (ek : X.K = K := by rfl) : PI X tg e (iAny K te) := by
  subst ek
  refine ⟨fun pins s σ H R I h => ?_⟩
  rcases h with h | h | h
  · exact (pi_list he).run pins s σ H R I h
  · exact (pi_tup he).run pins s σ H R I h
  · exact (pi_str he).run pins s σ H R I h
theorem pe_bmX {o e : Expr} {es : List Expr} {to : TE} {t : TA} {name : Str} {apos cpos : Pos} {T id : String} {r : V → List V → Hp → VK → Prop} (pa : PlainAttrs T) (slot : Slot T name id) (hty : typeOf (.builtin id) = pure (.type "method_descriptor"))
    (hm : MtR X id r) (ho : PE X o to) (ha : PA X (e :: es) t) (ek : X.K = K := by rfl)
    (hbase : attributeBase o name X.env (eval o X.env) = eval o X.env := by rfl)
    (hfew : ((backTo cpos (starEach (e :: es) X.env)).all (fun x => !x.1) && (backToKw cpos (keywordEach [] X.env)).all (fun x => x.1.isSome) && decide ((e :: es).length + ([] : List Keyword).length + (if ([] : List Keyword).isEmpty then 0 else 1) < 30)) = true := by rfl)
    (hline : (apos.endLine == cpos.line) = true := by rfl) (hs : starEach (e :: es) X.env = (false, eval e X.env) :: starEach es X.env := by rfl) (hplain : (backTo cpos (starEach es X.env)).any (·.1) = false := by rfl) :
    PE X (.Call (.Attribute o name apos) (e :: es) [] cpos) (tBM K T r to t) := by
  subst ek
  exact pe_bm pa slot hty hm ho ha hbase hfew hline hs hplain
theorem pe_bm0X {o : Expr} {to : TE} {name : Str} {apos cpos : Pos} {T id : String} {r : V → List V → Hp → VK → Prop} (pa : PlainAttrs T) (slot : Slot T name id) (hty : typeOf (.builtin id) = pure (.type "method_descriptor"))
    (hm : MtR X id r) (ho : PE X o to) (ek : X.K = K := by rfl) (hbase : attributeBase o name X.env (eval o X.env) = eval o X.env := by rfl) (hline : (apos.endLine == cpos.line) = true := by rfl) :
    PE X (.Call (.Attribute o name apos) [] [] cpos) (tBM0 K T r to) := by
  subst ek
  exact pe_bm0 pa slot hty hm ho hbase hline
theorem pg_tupX {es : List Expr} {k : Nat} {t : TGs} {n : Nat} {pos : Pos} (hc : X.calm = true) (h : PGs X es t) (ek : X.K = K := by rfl)
    (hn : (assignEach es X.env).length = n := by rfl) (hst : (assignEach es X.env).findIdx? (·.1) = none := by rfl) : PG X (.Tuple es k pos) (gTup K n t) := by
  subst ek
  exact pg_tup hc h hn hst
end
end Mine

/-! ## Readings, step by step -/
namespace Mine
open PySem PySem.Spec PyProof.Rows L2
set_option linter.all false
theorem dec_i {a b : Int} : decide (V.int a = V.int b) = decide (a = b) := by
  rw [Bool.eq_iff_iff]
  simp
theorem dec_s {a b : Str} : decide (V.str a = V.str b) = decide (a = b) := by
  rw [Bool.eq_iff_iff]
  simp
theorem dec_b {a b : Bool} : decide (V.bl a = V.bl b) = (a == b) := by
  cases a <;> cases b <;> rfl
section
variable {σ σ' : St} {H : Hp} {Q : VK} {QB : Bool → Hp → Prop} {QA : List V → Hp → Prop} {QO : Option Int → Hp → Prop} {v x y : V} {i j : Nat} {ta tb tc te : TE} {r r' : R2} {t u : TT} {b : Bool} {K : PySem.W.Frag} {D : Ends} {g : TG} {s s' : TS} {tA tA' : TA} {to tl th : TO}
theorem rd_var (h : σ[i]? = some (some v)) (q : Q v H) : tVar i σ H Q := ⟨v, h, q⟩
theorem rd_c (q : Q v H) : tC v σ H Q := q
theorem rd_op (q : ta σ H fun x H1 => tb σ H1 fun y H2 => r x y H2 Q) : tOp r ta tb σ H Q := q
theorem rd_un {r : V → Hp → VK → Prop} (q : ta σ H fun x H1 => r x H1 Q) : tUn r ta σ H Q := q
theorem rd_test (q : te σ H fun x H' => ∃ k, x = .bl k ∧ QB k H') : tTest te σ H QB := q
theorem rd_tB (q : te σ H fun x H' => ∃ k, x = .bl k ∧ QB k H') : tB te σ H QB := q
theorem rd_bl {QB : Bool → Prop} (q : QB b) : ∃ k, V.bl b = .bl k ∧ QB k := ⟨b, rfl, q⟩
theorem rd_chain (q : ta σ H fun x H1 => tb σ H1 fun y H2 => r x y H2 fun z H3 => ∃ k, z = .bl k ∧ (if k = true then tc σ H3 fun w' H4 => r' y w' H4 Q else Q (.bl false) H3)) : tChain r r' ta tb tc σ H Q := q
theorem rd_ifE (q : t σ H fun c H1 => if c = true then ta σ H1 Q else tb σ H1 Q) : tIf t ta tb σ H Q := q
theorem rd_and (q : t σ H fun c H1 => if c = true then u σ H1 QB else QB false H1) : tAnd t u σ H QB := q
theorem rd_or (q : t σ H fun c H1 => if c = true then QB true H1 else u σ H1 QB) : tOr t u σ H QB := q
theorem rd_not (q : t σ H fun c H1 => QB (!c) H1) : tNot t σ H QB := q
theorem rd_andV (q : ta σ H fun x H1 => ∃ c, x = .bl c ∧ if c = true then tb σ H1 Q else Q (.bl false) H1) : tAndV ta tb σ H Q := q
theorem rd_orV (q : ta σ H fun x H1 => ∃ c, x = .bl c ∧ if c = true then Q (.bl true) H1 else tb σ H1 Q) : tOrV ta tb σ H Q := q
theorem rd_notV (q : ta σ H fun x H1 => ∃ c, x = .bl c ∧ Q (.bl (!c)) H1) : tNotV ta σ H Q := q
theorem rd_nil (q : QA [] H) : tNil σ H QA := q
theorem rd_cons (q : ta σ H fun x H1 => tA σ H1 fun xs H2 => QA (x :: xs) H2) : tCons ta tA σ H QA := q
theorem rd_lst (q : tA σ H fun xs H1 => xs.length ≤ sizeLine ∧ ∀ p, H1 p = none → Q (.ref p) (upd H1 p (.lst xs))) : tLst tA σ H Q := q
theorem rd_tup (q : tA σ H fun xs H1 => xs.length ≤ sizeLine ∧ ∀ p, H1 p = none → Q (.ref p) (upd H1 p (.tup xs))) : tTup tA σ H Q := q
theorem rd_new {A : Prop} {xs : List V} (h : Nat.ble xs.length 100000 = true) (q : A) : xs.length ≤ sizeLine ∧ A := ⟨Nat.le_trans (Nat.le_of_ble_eq_true h) (by decide), q⟩
theorem rd_call {sp : Sp} {ds : List V} {E : XK} (q : tA σ H fun vs H1 => sp (vs ++ ds) H1 Q E) : tCall sp ds E tA σ H Q := q
theorem rd_callK {n m : Nat} {pm : List Nat} {sp : Sp} {E : XK} (q : tA σ H fun vs H1 => tA' σ H1 fun zs H2 => vs.length = n ∧ zs.length = m ∧ sp (gK pm vs zs) H2 Q E) : tCalK n m pm sp E tA tA' σ H Q := q
theorem rd_sp1 {Φ : V → Hp → VK → Prop} {E : XK} {a : V} (q : Φ a H Q) : sp1 Φ ([a] ++ []) H Q E := ⟨a, rfl, q⟩
theorem rd_sp2 {Φ : V → V → Hp → VK → Prop} {E : XK} {a b : V} (q : Φ a b H Q) : sp2 Φ ([a, b] ++ []) H Q E := ⟨a, b, rfl, q⟩
theorem rd_sp3 {Φ : V → V → V → Hp → VK → Prop} {E : XK} {a b c : V} (q : Φ a b c H Q) : sp3 Φ ([a, b, c] ++ []) H Q E := ⟨a, b, c, rfl, q⟩
theorem rd_sp4 {Φ : V → V → V → V → Hp → VK → Prop} {E : XK} {a b c d : V} (q : Φ a b c d H Q) : sp4 Φ ([a, b, c, d] ++ []) H Q E := ⟨a, b, c, d, rfl, q⟩
theorem rd_k {A B C D : Prop} (h : A = True) (h' : B = True) (q : C) : A ∧ B ∧ C := ⟨h ▸ trivial, h' ▸ trivial, q⟩
theorem rd_cb {r : List V → Hp → VK → Prop} (q : tA σ H fun vs H1 => r vs H1 Q) : tCB r tA σ H Q := q
theorem rd_bm0 {T : String} {r : V → List V → Hp → VK → Prop} (q : te σ H fun x H1 => tyV K T x H1 ∧ r x [] H1 Q) : tBM0 K T r te σ H Q := q
theorem rd_bm {T : String} {r : V → List V → Hp → VK → Prop} (q : te σ H fun x H1 => tyV K T x H1 ∧ tA σ H1 fun xs H2 => r x xs H2 Q) : tBM K T r te tA σ H Q := q
theorem rd_m0 {r : V → List V → Hp → VK → Prop} (q : te σ H fun x H1 => (∃ a, x = .str a) ∧ r x [] H1 Q) : tM0 r te σ H Q := q
theorem rd_m1 {r : V → List V → Hp → VK → Prop} (q : te σ H fun x H1 => (∃ a, x = .str a) ∧ ta σ H1 fun y H2 => r x [y] H2 Q) : tM1 r te ta σ H Q := q
theorem rd_tyS {A : Prop} {a : Str} (q : A) : tyV K "str" (.str a) H ∧ A := ⟨rfl, q⟩
theorem rd_isS {A : Prop} {a : Str} (q : A) : (∃ z, V.str a = .str z) ∧ A := ⟨⟨a, rfl⟩, q⟩
theorem rd_tyL {A : Prop} {p : Addr} {xs : List V} (h : SqL K H p xs) (q : A) : tyV K "list" (.ref p) H ∧ A := ⟨.inl ⟨rfl, xs, h⟩, q⟩
theorem rd_sl {r : V → Option Int → Option Int → Hp → VK → Prop} (q : te σ H fun x H1 => tl σ H1 fun l H2 => th σ H2 fun u H3 => r x l u H3 Q) : L2.tSl r te tl th σ H Q := q
theorem rd_noPart (q : QO none H) : tNoPart σ H QO := q
theorem rd_part (q : te σ H fun x H1 => ∃ i, x = .int i ∧ QO (some i) H1) : tPart te σ H QO := q
theorem rd_int {QI : Int → Prop} {n : Int} (q : QI n) : ∃ i, V.int n = .int i ∧ QI i := ⟨n, rfl, q⟩
theorem rd_yes (q : QB true H) : tYes σ H QB := q
/-! statements -/
theorem rd_seq (q : s { D with nx := s' D } σ H) : tSeq s s' D σ H := q
theorem rd_meet (M : St → Hp → Prop) (h : s { D with nx := M } σ H) (k : ∀ σ' H', M σ' H' → s' D σ' H') : tMeet s s' D σ H := ⟨M, h, k⟩
theorem rd_next (q : D.nx σ H) : tNext D σ H := q
theorem rd_brk (q : D.bk σ H) : tBreak D σ H := q
theorem rd_cont (q : D.ct σ H) : tCont D σ H := q
theorem rd_asg (q : te σ H fun x H1 => g x σ H1 D.nx) : tAsg te g D σ H := q
theorem rd_gname {k : St → Hp → Prop} (e : σ.set i (some x) = σ') (q : k σ' H) : gName i x σ H k := by subst e; exact q
theorem rd_gtup {n : Nat} {t : TGs} {a : Addr} {xs : List V} {k : St → Hp → Prop} (h : SqT K H a xs) (e : xs.length = n) (q : t xs σ H k) : gTup K n t (.ref a) σ H k := ⟨a, xs, rfl, h, e, q⟩
theorem rd_gcons {t : TG} {u : TGs} {vs : List V} {k : St → Hp → Prop} (q : t v σ H fun σ' H' => u vs σ' H' k) : gCons t u (v :: vs) σ H k := ⟨v, vs, rfl, q⟩
theorem rd_gnil {k : St → Hp → Prop} (q : k σ H) : gNil [] σ H k := ⟨rfl, q⟩
theorem rd_gsub {t : TSet} {k : St → Hp → Prop} (q : ta σ H fun o H1 => tb σ H1 fun i H2 => t o i v H2 fun H3 => k σ H3) : gSub ta tb t v σ H k := q
theorem rd_par (q : tA σ H fun vs H1 => ∃ v w, vs = [v, w] ∧ D.nx ((σ.set i (some v)).set j (some w)) H1) : tPar i j tA D σ H := q
theorem rd_par2 {a b : V} (e : (σ.set i (some a)).set j (some b) = σ') (q : D.nx σ' H) : ∃ v w, [a, b] = [v, w] ∧ D.nx ((σ.set i (some v)).set j (some w)) H := ⟨a, b, rfl, by rw [e]; exact q⟩
theorem rd_drop (q : te σ H fun _ H1 => D.nx σ H1) : tDrop te D σ H := q
theorem rd_ret (q : te σ H D.rt) : tRet te D σ H := q
theorem rd_retN (q : D.rt .non H) : tRetN D σ H := q
theorem rd_ifS (q : t σ H fun b H1 => if b = true then s D σ H1 else s' D σ H1) : tIfS t s s' D σ H := q
theorem rd_aug {ti : TIp} (h : σ[i]? = some (some x)) (q : te σ H fun y H1 => ti x y H1 fun z H2 => D.nx (σ.set i (some z)) H2) : tAug i te ti D σ H := ⟨x, h, q⟩
theorem rd_ipI {f : Int → Int → Int} {a b : Int} (q : Q (.int (f a b)) H) : ipI f (.int a) (.int b) H Q := ⟨a, b, rfl, rfl, q⟩
/-! what is asked of values -/
theorem rd_addI {a b : Int} (q : Q (.int (a + b)) H) : xAdd K (.int a) (.int b) H Q := q
theorem rd_addS {a b : Str} (h : a.length + b.length ≤ sizeLine) (q : Q (.str (a ++ b)) H) : xAdd K (.str a) (.str b) H Q := ⟨h, q⟩
theorem rd_subI {a b : Int} (q : Q (.int (a - b)) H) : xSub (.int a) (.int b) H Q := q
theorem rd_mulI {a b : Int} (h : IntMulOk a b) (q : Q (.int (a * b)) H) : xMul K (.int a) (.int b) H Q := ⟨h, q⟩
theorem rd_modI {a b : Int} (h : 0 < b) (q : Q (.int (a % b)) H) : xMod (.int a) (.int b) H Q := ⟨h, q⟩
theorem rd_modL {a b : Int} (h : 0 < b) (q : ∀ z, 0 ≤ z → z < b → Q (.int z) H) : xMod (.int a) (.int b) H Q := ⟨h, q _ (Int.emod_nonneg _ (by omega)) (Int.emod_lt_of_pos _ h)⟩
theorem rd_divI {a b : Int} (h : CDivW a b) (q : Q (.int (a / b)) H) : xDiv (.int a) (.int b) H Q := ⟨h, q⟩
theorem rd_powI {a b : Int} (h : PowOk a b) (q : Q (.int (a ^ b.toNat)) H) : xPow (.int a) (.int b) H Q := ⟨h, q⟩
theorem rd_ltI {a b : Int} (q : Q (.bl (decide (a < b))) H) : xLt (.int a) (.int b) H Q := q
theorem rd_leI {a b : Int} (q : Q (.bl (decide (a ≤ b))) H) : xLe (.int a) (.int b) H Q := q
theorem rd_gtI {a b : Int} (q : Q (.bl (decide (b < a))) H) : xGt (.int a) (.int b) H Q := q
theorem rd_geI {a b : Int} (q : Q (.bl (decide (b ≤ a))) H) : xGe (.int a) (.int b) H Q := q
theorem rd_ltS {a b : Str} (q : Q (.bl (decide (a.cps.toList < b.cps.toList))) H) : xLt (.str a) (.str b) H Q := q
theorem rd_leS {a b : Str} (q : Q (.bl (!decide (b.cps.toList < a.cps.toList))) H) : xLe (.str a) (.str b) H Q := q
theorem rd_gtS {a b : Str} (q : Q (.bl (decide (b.cps.toList < a.cps.toList))) H) : xGt (.str a) (.str b) H Q := q
theorem rd_geS {a b : Str} (q : Q (.bl (!decide (a.cps.toList < b.cps.toList))) H) : xGe (.str a) (.str b) H Q := q
theorem rd_eqI {a b : Int} (q : Q (.bl (decide (a = b))) H) : xEq K (.int a) (.int b) H Q := .inl ⟨rfl, by rw [dec_i]; exact q⟩
theorem rd_eqS {a b : Str} (q : Q (.bl (decide (a = b))) H) : xEq K (.str a) (.str b) H Q := .inl ⟨rfl, by rw [dec_s]; exact q⟩
theorem rd_neI {a b : Int} (q : Q (.bl (!decide (a = b))) H) : xNe K (.int a) (.int b) H Q := .inl ⟨rfl, by rw [dec_i]; exact q⟩
theorem rd_neS {a b : Str} (q : Q (.bl (!decide (a = b))) H) : xNe K (.str a) (.str b) H Q := .inl ⟨rfl, by rw [dec_s]; exact q⟩
theorem rd_eqB {a b : Bool} (q : Q (.bl (a == b)) H) : xEq K (.bl a) (.bl b) H Q := .inl ⟨rfl, by rw [dec_b]; exact q⟩
theorem rd_inS {a b : Str} (q : Q (.bl (inS a b)) H) : xIn K (.str a) (.str b) H Q := ⟨a, rfl, q⟩
theorem rd_notInS {a b : Str} (q : Q (.bl (!inS a b)) H) : xNotIn K (.str a) (.str b) H Q := ⟨a, rfl, q⟩
theorem rd_inT {p : Addr} {xs : List V} (h : SqT K H p xs) (f : flatV x = true) (f' : xs.all flatV = true) (q : Q (.bl (inV x xs)) H) : xIn K x (.ref p) H Q := ⟨p, xs, rfl, .inr h, f, f', q⟩
theorem rd_inL {p : Addr} {xs : List V} (h : SqL K H p xs) (f : flatV x = true) (f' : xs.all flatV = true) (q : Q (.bl (inV x xs)) H) : xIn K x (.ref p) H Q := ⟨p, xs, rfl, .inl h, f, f', q⟩
theorem rd_notInT {p : Addr} {xs : List V} (h : SqT K H p xs) (f : flatV x = true) (f' : xs.all flatV = true) (q : Q (.bl (!inV x xs)) H) : xNotIn K x (.ref p) H Q := ⟨p, xs, rfl, .inr h, f, f', q⟩
theorem rd_notInL {p : Addr} {xs : List V} (h : SqL K H p xs) (f : flatV x = true) (f' : xs.all flatV = true) (q : Q (.bl (!inV x xs)) H) : xNotIn K x (.ref p) H Q := ⟨p, xs, rfl, .inl h, f, f', q⟩
theorem rd_eqNil {p q : Addr} {xs : List V} (h : SqL K H p xs) (h' : SqL K H q []) (k : Q (.bl xs.isEmpty) H) : xEq K (.ref p) (.ref q) H Q :=
  .inr (.inr ⟨p, q, xs, [], rfl, rfl, h, h', .inr rfl, by cases xs <;> exact k⟩)
theorem rd_neNil {p q : Addr} {xs : List V} (h : SqL K H p xs) (h' : SqL K H q []) (k : Q (.bl (!xs.isEmpty)) H) : xNe K (.ref p) (.ref q) H Q :=
  .inr (.inr ⟨p, q, xs, [], rfl, rfl, h, h', .inr rfl, by cases xs <;> exact k⟩)
theorem rd_is (q : Q (.bl (decide (x = .non))) H) : xIs x .non H Q := ⟨rfl, q⟩
theorem rd_isNot (q : Q (.bl (!decide (x = .non))) H) : xIsNot x .non H Q := ⟨rfl, q⟩
theorem rd_ixL {p : Addr} {xs : List V} {n : Int} (h : SqL K H p xs) (e : atI xs n = some v) (q : Q v H) : xIx K (.ref p) (.int n) H Q := ⟨xs, v, .inl h, e, q⟩
theorem rd_ixT {p : Addr} {xs : List V} {n : Int} (h : SqT K H p xs) (e : atI xs n = some v) (q : Q v H) : xIx K (.ref p) (.int n) H Q := ⟨xs, v, .inr h, e, q⟩
theorem rd_ixS {z : Str} {n : Int} {c : Nat} (h : z.length ≤ sizeLine) (e : atI z.cps.toList n = some c) (q : Q (.str ⟨#[c]⟩) H) : xIx K (.str z) (.int n) H Q := ⟨c, h, e, q⟩
theorem rd_slS {z : Str} {lo hi : Option Int} (h : z.length ≤ sizeLine) (q : Q (.str (cutS z lo hi)) H) : xSl K (.str z) lo hi H Q := ⟨h, q⟩
theorem rd_slL {p : Addr} {xs : List V} {lo hi : Option Int} (h : SqL K H p xs) (q : ∀ l, H l = none → Q (.ref l) (upd H l (.lst (cutV xs lo hi)))) : xSl K (.ref p) lo hi H Q := .inl ⟨p, xs, rfl, h, q⟩
theorem rd_lenS {z : Str} (h : z.length ≤ sizeLine) (q : Q (.int (z.length : Nat)) H) : xLen K [.str z] H Q := ⟨_, _, rfl, ⟨h, rfl⟩, q⟩
theorem rd_lenL {p : Addr} {xs : List V} (h : SqL K H p xs) (q : Q (.int (xs.length : Nat)) H) : xLen K [.ref p] H Q := ⟨_, _, rfl, .inl ⟨xs, h, rfl⟩, q⟩
theorem rd_lenT {p : Addr} {xs : List V} (h : SqT K H p xs) (q : Q (.int (xs.length : Nat)) H) : xLen K [.ref p] H Q := ⟨_, _, rfl, .inr ⟨xs, h, rfl⟩, q⟩
theorem rd_intI {n : Int} (q : Q (.int n) H) : xInt [.int n] H Q := q
theorem rd_intB (q : Q (.int (if b then 1 else 0)) H) : xInt [.bl b] H Q := q
theorem rd_max {n m : Int} (q : Q (.int (max n m)) H) : xMax [.int n, .int m] H Q := q
theorem rd_min {n m : Int} (q : Q (.int (min n m)) H) : xMin [.int n, .int m] H Q := q
theorem rd_repr {d : PyData} (h : Dp K H x d) (h' : Shows d) (q : Q (.str d.shown) H) : xRepr K [x] H Q := ⟨x, d, rfl, h, h', q⟩
theorem rd_isi {T : String} {t : Value} (ty : TyX K H x t) (e : PySem.W.kitOne K t (.type T) = some b) (q : Q (.bl b) H) : rIsi K [x, .ty T] H Q := ⟨x, .ty T, t, .type T, b, rfl, .ty T, ty, e, q⟩
theorem rd_isiS {z : Str} (q : Q (.bl true) H) : rIsi K [.str z, .ty "str"] H Q := rd_isi (b := true) (.base (.str z)) (kit_ty (by decide +kernel)) q
theorem rd_isiSN (q : Q (.bl false) H) : rIsi K [.non, .ty "str"] H Q := rd_isi (b := false) (.base .non) (kit_ty (by decide +kernel)) q
theorem rd_isiSI {n : Int} (q : Q (.bl false) H) : rIsi K [.int n, .ty "str"] H Q := rd_isi (b := false) (.base (.int n)) (kit_ty (by decide +kernel)) q
theorem rd_isiSB {c : Bool} (q : Q (.bl false) H) : rIsi K [.bl c, .ty "str"] H Q := rd_isi (b := false) (.base (.bl c)) (kit_ty (by decide +kernel)) q
theorem rd_isiI {n : Int} (q : Q (.bl true) H) : rIsi K [.int n, .ty "int"] H Q := rd_isi (b := true) (.base (.int n)) (kit_ty (by decide +kernel)) q
theorem rd_isiIB {c : Bool} (q : Q (.bl true) H) : rIsi K [.bl c, .ty "int"] H Q := rd_isi (b := true) (.base (.bl c)) (kit_ty (by decide +kernel)) q
theorem rd_isiIN (q : Q (.bl false) H) : rIsi K [.non, .ty "int"] H Q := rd_isi (b := false) (.base .non) (kit_ty (by decide +kernel)) q
theorem rd_isiIS {z : Str} (q : Q (.bl false) H) : rIsi K [.str z, .ty "int"] H Q := rd_isi (b := false) (.base (.str z)) (kit_ty (by decide +kernel)) q
theorem rd_isiB {c : Bool} (q : Q (.bl true) H) : rIsi K [.bl c, .ty "bool"] H Q := rd_isi (b := true) (.base (.bl c)) (kit_ty (by decide +kernel)) q
theorem rd_isiBI {n : Int} (q : Q (.bl false) H) : rIsi K [.int n, .ty "bool"] H Q := rd_isi (b := false) (.base (.int n)) (kit_ty (by decide +kernel)) q
theorem rd_rep {p : Addr} {xs : List V} {n : Int} (h : H p = some (.lst xs)) (h0 : 0 ≤ n) (h1 : n < 1000000) (hz : xs.length * n.toNat ≤ sizeLine) (q : ∀ l, H l = none → Q (.ref l) (upd H l (.lst (List.replicate n.toNat xs).flatten))) : xMul K (.ref p) (.int n) H Q :=
  ⟨p, n, xs, rfl, rfl, h, by omega, by omega, hz, q⟩
theorem rd_mulS {z : Str} {n : Int} (hz : z.length ≤ 16) (hn : n ≤ 1048576) (h0 : 0 ≤ n) (q : Q (.str (Txt.mul z n)) H) : xMul K (.str z) (.int n) H Q := ⟨mulOk_of 16 1048576 hz hn (by omega) (by decide) (by decide), q⟩
theorem rd_cat {p l : Addr} {xs ys : List V} (h : H p = some (.lst xs)) (h' : H l = some (.lst ys)) (hz : xs.length + ys.length ≤ sizeLine) (q : ∀ r, H r = none → Q (.ref r) (upd H r (.lst (xs ++ ys)))) : xAdd K (.ref p) (.ref l) H Q :=
  .inl ⟨p, l, xs, ys, rfl, rfl, h, h', hz, q⟩
theorem rd_wipe {s1 s2 : St} {ws : List Nat} {A : Prop} (h : wipe s1 ws = wipe s2 ws) (q : A) : wipe s1 ws = wipe s2 ws ∧ A := ⟨h, q⟩
theorem rd_split {a b : Str} (h : (b.length == 0) = false) (hz : a.length ≤ 1000000) (q : ∀ p, H p = none → Q (.ref p) (upd H p (.lst ((Txt.split a b).map V.str)))) :
    ∃ a' b', V.str a = .str a' ∧ [V.str b] = [.str b'] ∧ (b'.length == 0) = false ∧ a'.length + 2 ≤ sizeLine ∧ rNewStrs (Txt.split a' b') H Q := ⟨a, b, rfl, rfl, h, Nat.le_trans (Nat.add_le_add_right hz 2) (by decide), q⟩
theorem rd_app {p : Addr} {xs : List V} (h : H p = some (.lst xs)) (l : xs.length < sizeLine) (q : Q .non (upd H p (.lst (xs ++ [x])))) : rAppend (.ref p) [x] H Q := ⟨p, xs, x, rfl, rfl, h, l, q⟩
theorem rd_all {p : Addr} {bs : List Bool} (h : SqL K H p (bs.map V.bl)) (q : Q (.bl (bs.all id)) H) : rAll K [.ref p] H Q := ⟨p, bs, rfl, h, q⟩
theorem rd_any {p : Addr} {bs : List Bool} (h : SqL K H p (bs.map V.bl)) (q : Q (.bl (bs.any id)) H) : rAny K [.ref p] H Q := ⟨p, bs, rfl, h, q⟩
theorem rd_setL {p : Addr} {xs : List V} {n : Int} {j : Nat} {QH : Hp → Prop} (h : H p = some (.lst xs)) (e : ixN xs.length n = some j) (q : QH (upd H p (.lst (xs.set j v)))) : rSetL (.ref p) (.int n) v H QH := ⟨p, xs, n, j, rfl, rfl, h, e, q⟩
theorem rd_ite {A B : Prop} (h1 : b = true → A) (h2 : b = false → B) : if b = true then A else B := by
  cases b with
  | true => exact h1 rfl
  | false => exact h2 rfl
theorem rd_yT {A B : Prop} (h : A) : if true = true then A else B := by rw [if_pos rfl]; exact h
theorem rd_yF {A B : Prop} (h : A) : if (!false) = true then A else B := by rw [if_pos (show (!false) = true from rfl)]; exact h
theorem rd_nF {A B : Prop} (h : B) : if false = true then A else B := by rw [if_neg Bool.false_ne_true]; exact h
theorem rd_nT {A B : Prop} (h : B) : if (!true) = true then A else B := by rw [if_neg (by decide)]; exact h
theorem rd_yesI {A B : Prop} (e : b = true) (h : A) : if b = true then A else B := by rw [if_pos e]; exact h
theorem rd_noI {A B : Prop} (e : b = false) (h : B) : if b = true then A else B := by rw [if_neg (by rw [e]; decide)]; exact h
/-! loops -/
variable {a : Addr} {xs ys : List V} {z : Str} {tt : TT} {vs : List Nat}
/-- a turn of a while -/
def WhT (m : Nat) (W : Nat → St → Hp → Prop) (s : TS) (D : Ends) (σ : St) (H : Hp) : Prop := ∃ N : St → Hp → Prop, (∀ σ' H', N σ' H' → ∃ m', m' < m ∧ W m' σ' H') ∧ s { D with nx := N, ct := N, bk := D.nx } σ H
/-- while, by a word W over a number that falls -/
theorem rd_while {tc : TT} (W : Nat → St → Hp → Prop) (m0 : Nat) (h0 : W m0 σ H)
    (hs : ∀ m σ H, W m σ H → tc σ H fun b H1 => if b = true then WhT m W s D σ H1 else D.nx σ H1) : tWhile tc s D σ H := ⟨W, ⟨m0, h0⟩, hs⟩
theorem rd_turn {m : Nat} {W : Nat → St → Hp → Prop} (q : s { D with nx := fun σ' H' => ∃ m', m' < m ∧ W m' σ' H', ct := fun σ' H' => ∃ m', m' < m ∧ W m' σ' H', bk := D.nx } σ H) : WhT m W s D σ H := ⟨_, fun _ _ h => h, q⟩
/-- what stands behind the walked thing in a for's reading -/
def ForW (J : It) (g : TG) (tb : TS) (D : Ends) (σ : St) (H : Hp) : Prop := ∃ W : Nat → Nat → St → Hp → Prop, (∃ m, W 0 m σ H) ∧ ∀ i m σ H, W i m σ H →
  (J.stop i H ∧ D.nx σ H) ∨ (J.go i H ∧ ∃ N : St → Hp → Prop, (∀ σ' H', N σ' H' → ∃ m', m' < m ∧ W (i + 1) m' σ' H') ∧ ∀ x H', J.yld i H x H' → g x σ H' fun σ2 H2 => tb { D with nx := N, ct := N, bk := D.nx } σ2 H2)
theorem rd_forL (q : te σ H fun x H1 => ∃ a, x = .ref a ∧ (∃ xs, SqL K H1 a xs) ∧ ForW (Itl K a) g s D σ H1) : tFor (iAny K te) g s D σ H := .inl q
theorem rd_forT (q : te σ H fun x H1 => ∃ a, x = .ref a ∧ (∃ xs, SqT K H1 a xs) ∧ ForW (Itt K a) g s D σ H1) : tFor (iAny K te) g s D σ H := .inr (.inl q)
theorem rd_forS (q : te σ H fun v H1 => ∃ x, v = .str x ∧ ForW (Its x) g s D σ H1) : tFor (iAny K te) g s D σ H := .inr (.inr q)
theorem rd_forR (q : tA σ H fun vs H1 => ∃ j : Int, vs = [.int j] ∧ -(2 ^ 62) ≤ j ∧ j < 2 ^ 62 ∧ ForW (Itr 0 j.toNat) g s D σ H1) : tFor (iRng1 tA) g s D σ H := q
theorem rd_forR2 (q : tA σ H fun vs H1 => ∃ i j : Int, vs = [.int i, .int j] ∧ (-(2 ^ 62) ≤ i ∧ i < 2 ^ 62 ∧ -(2 ^ 62) ≤ j ∧ j < 2 ^ 62) ∧ ForW (Itr i (j - i).toNat) g s D σ H1) : tFor (iRng2 tA) g s D σ H := q
theorem rd_itL (h : SqL K H a xs) (Pv : Nat → St → Hp → Prop) (h0 : Pv 0 σ H) (hl : ∀ i σ H, i ≤ xs.length → Pv i σ H → SqL K H a xs)
    (hs : ∀ i x σ H, xs[i]? = some x → Pv i σ H → g x σ H fun σ2 H2 => s { D with nx := Pv (i + 1), ct := Pv (i + 1), bk := D.nx } σ2 H2) (hd : ∀ σ H, Pv xs.length σ H → D.nx σ H) :
    ∃ b, V.ref a = .ref b ∧ (∃ xs, SqL K H b xs) ∧ ForW (Itl K b) g s D σ H := ⟨a, rfl, ⟨xs, h⟩, for_list Pv h0 hl hs hd⟩
theorem rd_itT (h : SqT K H a xs) (Pv : Nat → St → Hp → Prop) (h0 : Pv 0 σ H) (hl : ∀ i σ H, i ≤ xs.length → Pv i σ H → SqT K H a xs)
    (hs : ∀ i x σ H, xs[i]? = some x → Pv i σ H → g x σ H fun σ2 H2 => s { D with nx := Pv (i + 1), ct := Pv (i + 1), bk := D.nx } σ2 H2) (hd : ∀ σ H, Pv xs.length σ H → D.nx σ H) :
    ∃ b, V.ref a = .ref b ∧ (∃ xs, SqT K H b xs) ∧ ForW (Itt K b) g s D σ H := ⟨a, rfl, ⟨xs, h⟩, for_tup Pv h0 hl hs hd⟩
theorem rd_itS (Pv : Nat → St → Hp → Prop) (h0 : Pv 0 σ H)
    (hs : ∀ i c σ H, z.cps[i]? = some c → Pv i σ H → g (.str ⟨#[c]⟩) σ H fun σ2 H2 => s { D with nx := Pv (i + 1), ct := Pv (i + 1), bk := D.nx } σ2 H2) (hd : ∀ σ H, Pv z.cps.size σ H → D.nx σ H) :
    ∃ x, V.str z = .str x ∧ ForW (Its x) g s D σ H := by
  refine ⟨z, rfl, for_it walk_str Pv h0 (fun _ _ _ _ _ => trivial) ?_ hd⟩
  rintro i x σ1 H1 H2 hi hP ⟨rfl, c, hc, rfl⟩
  exact hs i c σ1 H2 hc hP
theorem rd_itR {n : Int} (b0 : -(2 ^ 62) ≤ n) (b1 : n < 2 ^ 62) (Pv : Nat → St → Hp → Prop) (h0 : Pv 0 σ H)
    (hs : ∀ (i : Nat) σ H, (i : Int) < n → Pv i σ H → g (.int (i : Int)) σ H fun σ2 H2 => s { D with nx := Pv (i + 1), ct := Pv (i + 1), bk := D.nx } σ2 H2) (hd : ∀ σ H, Pv n.toNat σ H → D.nx σ H) :
    ∃ j : Int, [V.int n] = [.int j] ∧ -(2 ^ 62) ≤ j ∧ j < 2 ^ 62 ∧ ForW (Itr 0 j.toNat) g s D σ H := by
  refine ⟨n, rfl, b0, b1, for_range Pv h0 ?_ hd⟩
  intro i σ1 H1 hi hP
  rw [Int.zero_add]
  exact hs i σ1 H1 (by omega) hP
theorem rd_itR2 {m n : Int} (b : -(2 ^ 62) ≤ m ∧ m < 2 ^ 62 ∧ -(2 ^ 62) ≤ n ∧ n < 2 ^ 62) (Pv : Nat → St → Hp → Prop) (h0 : Pv 0 σ H)
    (hs : ∀ (i : Nat) σ H, m + (i : Int) < n → Pv i σ H → g (.int (m + (i : Int))) σ H fun σ2 H2 => s { D with nx := Pv (i + 1), ct := Pv (i + 1), bk := D.nx } σ2 H2) (hd : ∀ σ H, Pv (n - m).toNat σ H → D.nx σ H) :
    ∃ i j : Int, [V.int m, V.int n] = [.int i, .int j] ∧ (-(2 ^ 62) ≤ i ∧ i < 2 ^ 62 ∧ -(2 ^ 62) ≤ j ∧ j < 2 ^ 62) ∧ ForW (Itr i (j - i).toNat) g s D σ H :=
  ⟨m, n, rfl, b, for_range Pv h0 (fun i σ1 H1 hi hP => hs i σ1 H1 (by omega) hP) hd⟩
/-- what stands behind the walked thing in a comprehension's reading -/
def LcW (J : It) (g : TG) (tt : TT) (te : TE) (vs : List Nat) (σ : St) (H1 : Hp) (Q : VK) : Prop := ∀ D, H1 D = none → ∃ W : Nat → Nat → Hp → Prop, (∃ m, W 0 m (upd H1 D (.lst []))) ∧ ∀ i m H, W i m H →
  (J.stop i H ∧ Q (.ref D) H) ∨ (J.go i H ∧ ∃ Nx : Hp → Prop, (∀ H', Nx H' → ∃ m', m' < m ∧ W (i + 1) m' H') ∧ ∀ x H', J.yld i H x H' → g x (wipe σ vs) H' fun σ2 H2 => wipe σ2 vs = wipe σ vs ∧ tt σ2 H2 fun b H3 =>
    if b = true then te σ2 H3 fun y H4 => ∃ acc, H4 D = some (.lst acc) ∧ acc.length < sizeLine ∧ Nx (upd H4 D (.lst (acc ++ [y]))) else Nx H3)
theorem rd_lcL (q : ta σ H fun x H1 => ∃ a, x = .ref a ∧ (∃ xs, SqL K H1 a xs) ∧ LcW (Itl K a) g tt te vs σ H1 Q) : tLc (iAny K ta) g tt te vs σ H Q := .inl q
theorem rd_lcT (q : ta σ H fun x H1 => ∃ a, x = .ref a ∧ (∃ xs, SqT K H1 a xs) ∧ LcW (Itt K a) g tt te vs σ H1 Q) : tLc (iAny K ta) g tt te vs σ H Q := .inr (.inl q)
theorem rd_lcS (q : ta σ H fun x H1 => ∃ z, x = .str z ∧ LcW (Its z) g tt te vs σ H1 Q) : tLc (iAny K ta) g tt te vs σ H Q := .inr (.inr q)
theorem rd_lcR (q : tA σ H fun ws H1 => ∃ j : Int, ws = [.int j] ∧ -(2 ^ 62) ≤ j ∧ j < 2 ^ 62 ∧ LcW (Itr 0 j.toNat) g tt te vs σ H1 Q) : tLc (iRng1 tA) g tt te vs σ H Q := q
theorem rd_lcR2 (q : tA σ H fun ws H1 => ∃ i j : Int, ws = [.int i, .int j] ∧ (-(2 ^ 62) ≤ i ∧ i < 2 ^ 62 ∧ -(2 ^ 62) ≤ j ∧ j < 2 ^ 62) ∧ LcW (Itr i (j - i).toNat) g tt te vs σ H1 Q) : tLc (iRng2 tA) g tt te vs σ H Q := q
/-- one turn of a comprehension: the target, the test, the element, the list grown at D -/
def LcT (g : TG) (tt : TT) (te : TE) (vs : List Nat) (σ : St) (D : Addr) (N : Hp → Prop) (x : V) (H : Hp) : Prop :=
  g x (wipe σ vs) H fun σ2 H2 => wipe σ2 vs = wipe σ vs ∧ tt σ2 H2 fun b H3 => if b = true then te σ2 H3 fun y H4 => ∃ acc, H4 D = some (.lst acc) ∧ acc.length < sizeLine ∧ N (upd H4 D (.lst (acc ++ [y]))) else N H3
theorem rd_lcT1 {D : Addr} {N : Hp → Prop} (q : g x (wipe σ vs) H fun σ2 H2 => wipe σ2 vs = wipe σ vs ∧ tt σ2 H2 fun b H3 => if b = true then te σ2 H3 fun y H4 => ∃ acc, H4 D = some (.lst acc) ∧ acc.length < sizeLine ∧ N (upd H4 D (.lst (acc ++ [y]))) else N H3) :
    LcT g tt te vs σ D N x H := q
/-- what holds between two turns: what stands stays by R, the list at D is what A says -/
theorem lc_by {J : It} {n : Nat} {G : Hp → Prop} {Y : Nat → Hp → V → Hp → Prop} (w : Walk J n G Y) (Pv : Addr → Nat → Hp → Prop) (h0 : ∀ D, H D = none → Pv D 0 (upd H D (.lst []))) (hG : ∀ D i H', H D = none → i ≤ n → Pv D i H' → G H')
    (hs : ∀ D i x H1 H2, H D = none → i < n → Pv D i H1 → Y i H1 x H2 → LcT g tt te vs σ D (Pv D (i + 1)) x H2) (hd : ∀ D H', H D = none → Pv D n H' → Q (.ref D) H') : LcW J g tt te vs σ H Q := by
  intro D hD
  exact lc_it w (Pv D) (h0 D hD) (fun i H' hi hP => hG D i H' hD hi hP) (fun i x H1 H2 hi hP hY => hs D i x H1 H2 hD hi hP hY) fun H' hP => hd D H' hD hP
theorem rd_clL (h : SqL K H a xs) (Pv : Addr → Nat → Hp → Prop) (h0 : ∀ D, H D = none → Pv D 0 (upd H D (.lst []))) (hG : ∀ D i H', H D = none → i ≤ xs.length → Pv D i H' → SqL K H' a xs)
    (hs : ∀ D i x H', H D = none → xs[i]? = some x → Pv D i H' → LcT g tt te vs σ D (Pv D (i + 1)) x H') (hd : ∀ D H', H D = none → Pv D xs.length H' → Q (.ref D) H') :
    ∃ b, V.ref a = .ref b ∧ (∃ xs, SqL K H b xs) ∧ LcW (Itl K b) g tt te vs σ H Q := by
  refine ⟨a, rfl, ⟨xs, h⟩, lc_by walk_list Pv h0 hG ?_ hd⟩
  rintro D i x H1 H2 hD hi hP ⟨rfl, hx⟩
  exact hs D i x H2 hD hx hP
theorem rd_clT (h : SqT K H a xs) (Pv : Addr → Nat → Hp → Prop) (h0 : ∀ D, H D = none → Pv D 0 (upd H D (.lst []))) (hG : ∀ D i H', H D = none → i ≤ xs.length → Pv D i H' → SqT K H' a xs)
    (hs : ∀ D i x H', H D = none → xs[i]? = some x → Pv D i H' → LcT g tt te vs σ D (Pv D (i + 1)) x H') (hd : ∀ D H', H D = none → Pv D xs.length H' → Q (.ref D) H') :
    ∃ b, V.ref a = .ref b ∧ (∃ xs, SqT K H b xs) ∧ LcW (Itt K b) g tt te vs σ H Q := by
  refine ⟨a, rfl, ⟨xs, h⟩, lc_by walk_tup Pv h0 hG ?_ hd⟩
  rintro D i x H1 H2 hD hi hP ⟨rfl, hx⟩
  exact hs D i x H2 hD hx hP
theorem rd_clS (Pv : Addr → Nat → Hp → Prop) (h0 : ∀ D, H D = none → Pv D 0 (upd H D (.lst [])))
    (hs : ∀ D i c H', H D = none → z.cps[i]? = some c → Pv D i H' → LcT g tt te vs σ D (Pv D (i + 1)) (.str ⟨#[c]⟩) H') (hd : ∀ D H', H D = none → Pv D z.cps.size H' → Q (.ref D) H') :
    ∃ y, V.str z = .str y ∧ LcW (Its y) g tt te vs σ H Q := by
  refine ⟨z, rfl, lc_by walk_str Pv h0 (fun _ _ _ _ _ _ => trivial) ?_ hd⟩
  rintro D i x H1 H2 hD hi hP ⟨rfl, c, hc, rfl⟩
  exact hs D i c H2 hD hc hP
theorem rd_clR {n : Int} (b0 : -(2 ^ 62) ≤ n) (b1 : n < 2 ^ 62) (Pv : Addr → Nat → Hp → Prop) (h0 : ∀ D, H D = none → Pv D 0 (upd H D (.lst [])))
    (hs : ∀ D (i : Nat) H', H D = none → (i : Int) < n → Pv D i H' → LcT g tt te vs σ D (Pv D (i + 1)) (.int (i : Int)) H') (hd : ∀ D H', H D = none → Pv D n.toNat H' → Q (.ref D) H') :
    ∃ j : Int, [V.int n] = [.int j] ∧ -(2 ^ 62) ≤ j ∧ j < 2 ^ 62 ∧ LcW (Itr 0 j.toNat) g tt te vs σ H Q := by
  refine ⟨n, rfl, b0, b1, lc_by walk_range Pv h0 (fun _ _ _ _ _ _ => trivial) ?_ hd⟩
  rintro D i x H1 H2 hD hi hP ⟨rfl, rfl⟩
  show LcT g tt te vs σ D (Pv D (i + 1)) (V.int (0 + (i : Int))) H2
  rw [Int.zero_add]
  exact hs D i H2 hD (by omega) hP
theorem rd_clR2 {m n : Int} (b : -(2 ^ 62) ≤ m ∧ m < 2 ^ 62 ∧ -(2 ^ 62) ≤ n ∧ n < 2 ^ 62) (Pv : Addr → Nat → Hp → Prop) (h0 : ∀ D, H D = none → Pv D 0 (upd H D (.lst [])))
    (hs : ∀ D (i : Nat) H', H D = none → m + (i : Int) < n → Pv D i H' → LcT g tt te vs σ D (Pv D (i + 1)) (.int (m + (i : Int))) H') (hd : ∀ D H', H D = none → Pv D (n - m).toNat H' → Q (.ref D) H') :
    ∃ i j : Int, [V.int m, V.int n] = [.int i, .int j] ∧ (-(2 ^ 62) ≤ i ∧ i < 2 ^ 62 ∧ -(2 ^ 62) ≤ j ∧ j < 2 ^ 62) ∧ LcW (Itr i (j - i).toNat) g tt te vs σ H Q := by
  refine ⟨m, n, rfl, b, lc_by walk_range Pv h0 (fun _ _ _ _ _ _ => trivial) ?_ hd⟩
  rintro D i x H1 H2 hD hi hP ⟨rfl, rfl⟩
  exact hs D i H2 hD (by omega) hP
end
end Mine

/-! ## Texts and drawn things -/
namespace Mine
open PySem PySem.Spec PyProof.Rows L2
open TL (tl spl pre spl_nil spl_hit spl_miss split_spl)
set_option linter.all false
theorem len_tl (z : Str) : (tl z).length = z.length := by
  show z.cps.toList.length = z.cps.size
  simp
theorem str_ext {a b : Str} (h : tl a = tl b) : a = b := by
  obtain ⟨⟨a⟩⟩ := a
  obtain ⟨⟨b⟩⟩ := b
  have h' : a = b := h
  rw [h']
theorem tl_app (a b : Str) : tl (a ++ b) = tl a ++ tl b := by
  show (a ++ b).cps.toList = _
  rw [show (a ++ b).cps = a.cps ++ b.cps from rfl, Array.toList_append]
theorem len_app (a b : Str) : (a ++ b).length = a.length + b.length := by rw [← len_tl, tl_app, List.length_append, len_tl, len_tl]
theorem tl_cut (z : Str) (lo hi : Option Int) : tl (cutS z lo hi) = ((tl z).drop (HT.sIx z.length 0 lo)).take (HT.sIx z.length z.length hi - HT.sIx z.length 0 lo) := by
  show (cutS z lo hi).cps.toList = _
  unfold cutS
  simp
theorem tl_take (z : Str) (k : Nat) : tl (cutS z none (some (k : Int))) = (tl z).take k := by
  rw [tl_cut, HT.sIx_none, List.drop_zero, Nat.sub_zero, HT.sIx_nat]
  by_cases h : k ≤ z.length
  · rw [Nat.min_eq_left h]
  · rw [Nat.min_eq_right (by omega), List.take_of_length_le (by rw [len_tl]; exact Nat.le_refl _), List.take_of_length_le (by rw [len_tl]; omega)]
theorem tl_drop (z : Str) (k : Nat) : tl (cutS z (some (k : Int)) none) = (tl z).drop k := by
  rw [tl_cut, HT.sIx_none, HT.sIx_nat]
  by_cases h : k ≤ z.length
  · rw [Nat.min_eq_left h, List.take_of_length_le (by rw [List.length_drop, len_tl]; exact Nat.le_refl _)]
  · rw [Nat.min_eq_right (by omega), List.drop_of_length_le (by rw [len_tl]; exact Nat.le_refl _), List.take_nil, List.drop_of_length_le (by rw [len_tl]; omega)]
theorem cut_take {z : Str} {i : Int} (h0 : 0 ≤ i) : (cutS z none (some i)).length = min i.toNat z.length := by
  obtain ⟨k, rfl⟩ : ∃ k : Nat, i = (k : Int) := ⟨i.toNat, by omega⟩
  rw [← len_tl, tl_take, List.length_take, len_tl]
  rfl
theorem cut_drop {z : Str} {i : Int} (h0 : 0 ≤ i) : (cutS z (some i) none).length = z.length - i.toNat := by
  obtain ⟨k, rfl⟩ : ∃ k : Nat, i = (k : Int) := ⟨i.toNat, by omega⟩
  rw [← len_tl, tl_drop, List.length_drop, len_tl]
  rfl
/-- a text of at most so many signs -/
def strLe (L : Nat) : V → Bool
  | .str z => decide (z.length ≤ L)
  | _ => false
theorem strLe_str {L : Nat} {x : V} (h : strLe L x = true) : ∃ z, x = .str z ∧ z.length ≤ L := by
  cases x with
  | str z => exact ⟨z, rfl, of_decide_eq_true h⟩
  | _ => cases h
theorem atI_mem {xs : List V} {v : Int} (h0 : 0 ≤ v) (h1 : v < xs.length) : ∃ x, x ∈ xs ∧ atI xs v = some x := by
  obtain ⟨j, rfl⟩ : ∃ j : Nat, v = (j : Int) := ⟨v.toNat, by omega⟩
  have hj : j < xs.length := by omega
  exact ⟨xs[j], List.getElem_mem hj, atI_nat (List.getElem?_eq_getElem hj)⟩
/-- an item of a list, whichever -/
theorem pick {K : PySem.W.Frag} {p : Addr} {xs : List V} {v : Int} {H : Hp} {Q : VK} (h : SqL K H p xs) (h0 : 0 ≤ v) (h1 : v < xs.length) (q : ∀ x, x ∈ xs → Q x H) : xIx K (.ref p) (.int v) H Q := by
  obtain ⟨x, hx, e⟩ := atI_mem h0 h1
  exact rd_ixL h e (q x hx)
theorem pickT {K : PySem.W.Frag} {p : Addr} {xs : List V} {v : Int} {H : Hp} {Q : VK} (h : SqT K H p xs) (h0 : 0 ≤ v) (h1 : v < xs.length) (q : ∀ x, x ∈ xs → Q x H) : xIx K (.ref p) (.int v) H Q := by
  obtain ⟨x, hx, e⟩ := atI_mem h0 h1
  exact rd_ixT h e (q x hx)
theorem pickS {K : PySem.W.Frag} {p : Addr} {xs : List V} {v : Int} {H : Hp} {Q : VK} (L : Nat) (h : SqL K H p xs) (h0 : 0 ≤ v) (h1 : v < xs.length) (hL : xs.all (strLe L) = true) (q : ∀ z, z.length ≤ L → Q (.str z) H) : xIx K (.ref p) (.int v) H Q := by
  refine pick h h0 h1 fun x hx => ?_
  obtain ⟨z, rfl, hz⟩ := strLe_str (List.all_eq_true.mp hL x hx)
  exact q z hz
theorem join_le (sep : Str) (ys : List Str) (L : Nat) (h : ∀ y ∈ ys, y.length ≤ L) : (ys.map (·.length)).sum ≤ ys.length * L := by
  induction ys with
  | nil => exact Nat.zero_le _
  | cons y ys ih =>
    have h1 := h y List.mem_cons_self
    have h2 := ih fun z hz => h z (List.mem_cons_of_mem _ hz)
    rw [List.map_cons, List.sum_cons, List.length_cons, Nat.add_mul, Nat.one_mul]
    omega
theorem len_join (sep : Str) (ys : List Str) : (Txt.join sep ys).length ≤ (ys.map (·.length)).sum + ys.length * sep.length := by
  show (Builtin.Str.glued sep ys).length ≤ _
  rw [StrLaws.glued_eq_join]
  exact StrLaws.join_length_le sep ys
theorem spl_len {S : List Nat} : ∀ (l : List Nat) (k : Nat) (acc : List Nat), (∀ p ∈ spl S k acc l, p.length ≤ acc.length + l.length) ∧ (spl S k acc l).length ≤ l.length + 1
  | [], k, acc => by
    rw [spl_nil]
    exact ⟨fun p hp => by rw [List.mem_singleton.mp hp]; exact Nat.le_add_right _ _, Nat.le_refl _⟩
  | c :: r, 0, acc => by
    cases h : pre S (c :: r) with
    | true =>
      rw [spl_hit h]
      obtain ⟨h1, h2⟩ := spl_len (S := S) r (S.length - 1) []
      refine ⟨fun p hp => ?_, by rw [List.length_cons, List.length_cons]; omega⟩
      rcases List.mem_cons.mp hp with rfl | hp
      · exact Nat.le_add_right _ _
      · have := h1 p hp
        rw [List.length_nil] at this
        rw [List.length_cons]
        omega
    | false =>
      rw [spl_miss h]
      obtain ⟨h1, h2⟩ := spl_len (S := S) r 0 (acc ++ [c])
      refine ⟨fun p hp => ?_, by rw [List.length_cons]; omega⟩
      have := h1 p hp
      rw [List.length_append, List.length_singleton] at this
      rw [List.length_cons]
      omega
  | c :: r, k + 1, acc => by
    show (∀ p ∈ spl S k acc r, _) ∧ (spl S k acc r).length ≤ _
    obtain ⟨h1, h2⟩ := spl_len (S := S) r k acc
    refine ⟨fun p hp => ?_, by rw [List.length_cons]; omega⟩
    have := h1 p hp
    rw [List.length_cons]
    omega
/-- the parts of a text, the sign between them below 256 -/
theorem split_len {z y : Str} (hy : tl y ≠ []) (hk : y.cps.all (· < 256) = true) : (∀ w ∈ Txt.split z y, w.length ≤ z.length) ∧ (Txt.split z y).length ≤ z.length + 1 := by
  have k1 : Builtin.Str.strKind y = 1 := by
    unfold Builtin.Str.strKind
    rw [if_pos hk]
  have k2 : ¬ Builtin.Str.strKind z < Builtin.Str.strKind y := by
    rw [k1]
    unfold Builtin.Str.strKind
    split
    · omega
    · split <;> omega
  have e := split_spl z y hy k2
  obtain ⟨h1, h2⟩ := spl_len (S := tl y) (tl z) 0 []
  rw [← e] at h1 h2
  constructor
  · intro w hw
    have := h1 (tl w) (List.mem_map_of_mem hw)
    rw [List.length_nil, Nat.zero_add, len_tl, len_tl] at this
    exact this
  · rw [List.length_map, len_tl] at h2
    exact h2
theorem szOk {n : Nat} (h : n ≤ 1000000) : n ≤ sizeLine := Nat.le_trans h (by decide)
theorem szLt {n : Nat} (h : n ≤ 1000000) : n < sizeLine := Nat.lt_of_le_of_lt h (by decide)
/-- bools shown in a list -/
def bools (bs : List Bool) : PyData := .list (bs.map .bool)
theorem dp_bools {K : PySem.W.Frag} {H : Hp} : ∀ bs : List Bool, DpAll K H (bs.map V.bl) (bs.map .bool)
  | [] => .nil
  | b :: bs => .cons (.bl b) (dp_bools bs)
theorem _root_.L2.Same.new {H H' : Hp} {p : Addr} {o : HO} (a : Same H H') (h : H' p = none) : Same H (upd H' p o) := fun c u e => by
  rw [upd_ne (ne_of_none (a c u e) h)]
  exact a c u e
theorem _root_.L2.Same.put {H H' : Hp} {p : Addr} {o : HO} (a : Same H H') (h : H p = none) : Same H (upd H' p o) := fun c u e => by
  rw [upd_ne (ne_of_none e h)]
  exact a c u e
theorem _root_.L2.Same.there {H H' : Hp} {p : Addr} {o : HO} (k : Same (upd H p o) H') : H' p = some o := k p _ upd_same
theorem sm_tup {K : PySem.W.Frag} {H H' : Hp} {a : Addr} {xs : List V} (e : Same H H') (h : SqT K H a xs) : SqT K H' a xs := by
  rcases h with (h | ⟨o, h⟩) | h
  · exact .inl (.inl (e _ _ h))
  · exact .inl (.inr ⟨o, e _ _ h⟩)
  · exact .inr h
/-! ### comprehensions that change nothing: [f x for x in .. if p x] -/
section
variable {K : PySem.W.Frag} {J : It} {xs : List V} {G : Hp → Prop} {tt : TT} {te : TE} {vs : List Nat} {σ : St} {H : Hp} {Q : VK} {j : Nat} {a : Addr} {z : Str}
/-- reads and makes new things alone: b at the end -/
def Pt (t : TT) (σ : St) (H : Hp) (b : Bool) : Prop := ∀ H1, Same H H1 → ∀ QE : Bool → Hp → Prop, (∀ H2, Same H1 H2 → QE b H2) → t σ H1 QE
def Pe (t : TE) (σ : St) (H : Hp) (v : V) : Prop := ∀ H1, Same H H1 → ∀ QE : VK, (∀ H2, Same H1 H2 → QE v H2) → t σ H1 QE
theorem pt_yes : Pt tYes σ H true := fun H1 _ QE q => q H1 (Same.refl H1)
theorem lc_pure (w : Walk J xs.length G (YAt xs)) (hG : ∀ H', Same H H' → G H') (p : V → Bool) (f : V → V) (hw : ∀ x, wipe ((wipe σ vs).set j (some x)) vs = wipe σ vs) (hl : xs.length ≤ 1000000)
    (ht : ∀ x, x ∈ xs → Pt tt ((wipe σ vs).set j (some x)) H (p x)) (he : ∀ x, x ∈ xs → p x = true → Pe te ((wipe σ vs).set j (some x)) H (f x))
    (hd : ∀ D H', H D = none → Same H H' → H' D = some (.lst ((xs.filter p).map f)) → Q (.ref D) H') : LcW J (gName j) tt te vs σ H Q := by
  refine lc_by w (fun D i H' => Same H H' ∧ H' D = some (.lst (((xs.take i).filter p).map f))) (fun D hD => ⟨(Same.refl H).new hD, upd_same⟩) (fun D i H' _ _ h => hG H' h.1) ?_ (fun D H' hD h => hd D H' hD h.1 (by have := h.2; rwa [List.take_length] at this))
  rintro D i x H1 H2 hD hi ⟨hS, hD1⟩ ⟨rfl, hx⟩
  have mem : x ∈ xs := List.mem_of_getElem? hx
  have grow : xs.take (i + 1) = xs.take i ++ [x] := by rw [List.take_add_one, hx]; rfl
  refine ⟨hw x, ht x mem H2 hS _ fun H3 s3 => ?_⟩
  cases hp : p x with
  | true =>
    refine rd_yT (he x mem hp H3 (hS.trans s3) _ fun H4 s4 => ?_)
    refine ⟨_, s4 _ _ (s3 _ _ hD1), szLt ?_, ((hS.trans s3).trans s4).put hD, ?_⟩
    · rw [List.length_map]
      have h1 := List.length_filter_le p (xs.take i)
      rw [List.length_take] at h1
      omega
    · rw [upd_same, grow, List.filter_append, List.map_append]
      simp [hp]
  | false =>
    refine rd_nF ⟨hS.trans s3, ?_⟩
    rw [s3 _ _ hD1, grow, List.filter_append]
    simp [hp]
theorem rd_mapL (h : SqL K H a xs) (p : V → Bool) (f : V → V) (hw : ∀ x, wipe ((wipe σ vs).set j (some x)) vs = wipe σ vs) (hl : xs.length ≤ 1000000)
    (ht : ∀ x, x ∈ xs → Pt tt ((wipe σ vs).set j (some x)) H (p x)) (he : ∀ x, x ∈ xs → p x = true → Pe te ((wipe σ vs).set j (some x)) H (f x))
    (hd : ∀ D H', H D = none → Same H H' → H' D = some (.lst ((xs.filter p).map f)) → Q (.ref D) H') : ∃ b, V.ref a = .ref b ∧ (∃ xs, SqL K H b xs) ∧ LcW (Itl K b) (gName j) tt te vs σ H Q :=
  ⟨a, rfl, ⟨xs, h⟩, lc_pure walk_list (fun H' e => e.seq h) p f hw hl ht he hd⟩
theorem rd_mapT (h : SqT K H a xs) (p : V → Bool) (f : V → V) (hw : ∀ x, wipe ((wipe σ vs).set j (some x)) vs = wipe σ vs) (hl : xs.length ≤ 1000000)
    (ht : ∀ x, x ∈ xs → Pt tt ((wipe σ vs).set j (some x)) H (p x)) (he : ∀ x, x ∈ xs → p x = true → Pe te ((wipe σ vs).set j (some x)) H (f x))
    (hd : ∀ D H', H D = none → Same H H' → H' D = some (.lst ((xs.filter p).map f)) → Q (.ref D) H') : ∃ b, V.ref a = .ref b ∧ (∃ xs, SqT K H b xs) ∧ LcW (Itt K b) (gName j) tt te vs σ H Q :=
  ⟨a, rfl, ⟨xs, h⟩, lc_pure walk_tup (fun H' e => sm_tup e h) p f hw hl ht he hd⟩
/-- the signs of a text, each as a text -/
def signs (z : Str) : List V := z.cps.toList.map fun c => .str ⟨#[c]⟩
theorem walk_signs : Walk (Its z) (signs z).length (fun _ => True) (YAt (signs z)) := by
  have e : (signs z).length = z.cps.size := by unfold signs; simp
  rw [e]
  refine walk_str.mono (fun _ h => h) ?_
  rintro i H1 x H2 hi _ ⟨rfl, c, hc, rfl⟩
  refine ⟨rfl, ?_⟩
  unfold signs
  rw [List.getElem?_map, Array.getElem?_toList, hc]
  rfl
theorem rd_mapS (p : V → Bool) (f : V → V) (hw : ∀ x, wipe ((wipe σ vs).set j (some x)) vs = wipe σ vs) (hl : z.length ≤ 1000000)
    (ht : ∀ x, x ∈ signs z → Pt tt ((wipe σ vs).set j (some x)) H (p x)) (he : ∀ x, x ∈ signs z → p x = true → Pe te ((wipe σ vs).set j (some x)) H (f x))
    (hd : ∀ D H', H D = none → Same H H' → H' D = some (.lst (((signs z).filter p).map f)) → Q (.ref D) H') : ∃ y, V.str z = .str y ∧ LcW (Its y) (gName j) tt te vs σ H Q :=
  ⟨z, rfl, lc_pure walk_signs (fun _ _ => trivial) p f hw (by unfold signs; rw [List.length_map]; simpa [Str.length] using hl) ht he hd⟩
end
/-- a value's type stays while what is tracked stays -/
theorem tyx_same {K : PySem.W.Frag} {H H' : Hp} {v : V} {t : Value} (e : Same H H') (h : TyX K H v t) : TyX K H' v t := by
  cases h with
  | base b =>
    refine .base ?_
    cases b with
    | non => exact .non
    | bl x => exact .bl x
    | int i => exact .int i
    | str x => exact .str x
    | flt x => exact .flt x
    | lst h => exact .lst (e _ _ h)
    | frz h => exact .frz (e _ _ h)
    | tup h => exact .tup (e _ _ h)
    | dK h => exact .dK (e _ _ h)
    | dT h => exact .dT (e _ _ h)
    | ins h c1 c2 c3 c4 c5 => exact .ins (e _ _ h) c1 c2 c3 c4 c5
  | byt b => exact .byt b
  | set h => exact .set (e _ _ h)
  | kList h c => exact .kList h c
  | kTuple h c => exact .kTuple h c
  | kDict h c => exact .kDict h c
  | fTuple h => exact .fTuple (e _ _ h)
  | fDict h => exact .fDict (e _ _ h)
theorem shows_2 (b : Bool) : Shows (.list [.bool b, .bool b]) := by
  cases b <;> exact ⟨by decide +kernel, by decide +kernel, by decide +kernel, by decide +kernel⟩
/-! ### signs, parts of a text -/
theorem tl_mid (z : Str) (i j : Nat) (h : i ≤ j) : tl (cutS z (some (i : Int)) (some (j : Int))) = ((tl z).drop i).take (j - i) := by
  rw [tl_cut, HT.sIx_nat, HT.sIx_nat]
  have e := len_tl z
  by_cases h1 : i ≤ z.length
  · rw [Nat.min_eq_left h1]
    by_cases h2 : j ≤ z.length
    · rw [Nat.min_eq_left h2]
    · rw [Nat.min_eq_right (by omega), List.take_of_length_le (by rw [List.length_drop, e]; exact Nat.le_refl _), List.take_of_length_le (by rw [List.length_drop, e]; omega)]
  · rw [Nat.min_eq_right (by omega), Nat.min_eq_right (by omega), List.drop_of_length_le (by rw [e]; exact Nat.le_refl _), List.drop_of_length_le (by rw [e]; omega), List.take_nil, List.take_nil]
theorem tl_inj {a b : Str} : a = b ↔ tl a = tl b := ⟨fun h => h ▸ rfl, str_ext⟩
theorem dec_tl (a b : Str) : decide (a = b) = decide (tl a = tl b) := decide_eq_decide.mpr tl_inj
theorem tl_sg (c : Nat) : tl (⟨#[c]⟩ : Str) = [c] := rfl
theorem drop_ne {l : List Nat} {k c : Nat} {r : List Nat} (h : l.drop k = c :: r) : l[k]? = some c ∧ k < l.length ∧ l.drop (k + 1) = r := by
  have h1 : (l.drop k)[0]? = some c := by rw [h]; rfl
  rw [List.getElem?_drop, Nat.add_zero] at h1
  refine ⟨h1, (List.getElem?_eq_some_iff.mp h1).1, ?_⟩
  rw [← List.drop_drop, h]
  rfl
/-- the first c in a row of signs: what stands before it, what behind -/
def cutAt (c : Nat) : List Nat → Option (List Nat × List Nat)
  | [] => none
  | x :: r => if x = c then some ([], r) else (cutAt c r).map fun p => (x :: p.1, p.2)
theorem cutAt_none {c : Nat} : ∀ {l : List Nat}, cutAt c l = none → c ∉ l
  | [], _ => List.not_mem_nil
  | x :: r, h => by
    unfold cutAt at h
    by_cases e : x = c
    · rw [if_pos e] at h; cases h
    · rw [if_neg e, Option.map_eq_none_iff] at h
      rw [List.mem_cons]
      rintro (q | q)
      · exact e q.symm
      · exact cutAt_none h q
theorem cutAt_some {c : Nat} : ∀ {l b t : List Nat}, cutAt c l = some (b, t) → l = b ++ c :: t ∧ c ∉ b
  | [], _, _, h => by cases h
  | x :: r, b, t, h => by
    unfold cutAt at h
    by_cases e : x = c
    · rw [if_pos e] at h
      cases h
      exact ⟨by rw [e]; rfl, List.not_mem_nil⟩
    · rw [if_neg e] at h
      obtain ⟨⟨b', t'⟩, h1, h2⟩ := Option.map_eq_some_iff.mp h
      cases h2
      obtain ⟨h3, h4⟩ := cutAt_some h1
      refine ⟨by rw [h3]; rfl, ?_⟩
      rw [List.mem_cons]
      rintro (q | q)
      · exact e q.symm
      · exact h4 q
theorem from_nat {n i : Nat} : fromIndex n (i : Int) = i := by
  unfold fromIndex
  rw [if_neg (by omega)]
  omega
theorem getD_tl {z : Str} {v c : Nat} (hv : v < z.length) : z.cps.getD v 0 = c ↔ (tl z)[v]? = some c := ⟨StrLaws.getElem?_of_getD hv, StrLaws.getD_of_getElem?⟩
/-- find of one sign, from a place on -/
theorem find_cut (z : Str) (c i : Nat) : Txt.find3 z ⟨#[c]⟩ (i : Int) = (match cutAt c ((tl z).drop i) with | none => -1 | some (b, _) => ((i + b.length : Nat) : Int)) := by
  have sp := StrLaws.find3_spec z c (i : Int)
  rw [from_nat] at sp
  cases e : cutAt c ((tl z).drop i) with
  | none =>
    rcases sp with ⟨h, _⟩ | ⟨k, h, h1, h2, h3, _⟩
    · exact h
    · refine absurd ?_ (cutAt_none e)
      refine List.mem_of_getElem? (i := k - i) ?_
      rw [List.getElem?_drop, show i + (k - i) = k by omega]
      exact (getD_tl h2).mp h3
  | some p =>
    obtain ⟨b, t⟩ := p
    obtain ⟨h5, h6⟩ := cutAt_some e
    have at_ : (tl z)[i + b.length]? = some c := by
      rw [← List.getElem?_drop, h5, List.getElem?_append_right (Nat.le_refl _), Nat.sub_self]
      rfl
    have lt := (List.getElem?_eq_some_iff.mp at_).1
    rw [len_tl] at lt
    rcases sp with ⟨_, h⟩ | ⟨k, h, h1, h2, h3, h4⟩
    · exact absurd ((getD_tl lt).mpr at_) (h _ (by omega) lt)
    · rw [h]
      have h3' := (getD_tl h2).mp h3
      have e1 : ¬ k < i + b.length := fun q => h6 (by
        refine List.mem_of_getElem? (i := k - i) (a := c) ?_
        have : ((tl z).drop i)[k - i]? = some c := by rw [List.getElem?_drop, show i + (k - i) = k by omega]; exact h3'
        rw [h5, List.getElem?_append_left (by omega)] at this
        exact this)
      have e2 : ¬ i + b.length < k := fun q => h4 _ (by omega) q ((getD_tl lt).mpr at_)
      show (k : Int) = ((i + b.length : Nat) : Int)
      omega
theorem find_cut0 (z : Str) (c : Nat) : Txt.find z ⟨#[c]⟩ = (match cutAt c (tl z) with | none => -1 | some (b, _) => (b.length : Int)) := by
  rw [find_is_find3, show (0 : Int) = ((0 : Nat) : Int) from rfl, find_cut, List.drop_zero]
  cases cutAt c (tl z) with
  | none => rfl
  | some p => show ((0 + p.1.length : Nat) : Int) = _; rw [Nat.zero_add]
/-! ### what is new since A -/
def nw (A H : Hp) : Hp := fun a => match A a with | none => H a | some _ => none
/-- all that A tracks is tracked still -/
def Sub (A H : Hp) : Prop := ∀ a, H a = none → A a = none
theorem Sub.refl (A : Hp) : Sub A A := fun _ h => h
theorem Sub.of {A H : Hp} (e : Same A H) : Sub A H := fun a h => by
  cases q : A a with
  | none => rfl
  | some o => rw [e _ _ q] at h; cases h
theorem Sub.trans {A B C : Hp} (h : Sub A B) (k : Sub B C) : Sub A C := fun a q => h a (k a q)
theorem Sub.upd {A H : Hp} {p : Addr} {o : HO} (h : Sub A H) : Sub A (upd H p o) := fun a q => by
  by_cases e : a = p
  · rw [e, upd_same] at q; cases q
  · rw [upd_ne e] at q; exact h a q
theorem nw_get {A H : Hp} {a : Addr} {o : HO} (h : A a = none) (k : H a = some o) : nw A H a = some o := by
  unfold nw
  rw [h]
  exact k
theorem nw_inv {A H : Hp} {a : Addr} {o : HO} (k : nw A H a = some o) : A a = none ∧ H a = some o := by
  unfold nw at k
  cases q : A a with
  | none => rw [q] at k; exact ⟨rfl, k⟩
  | some u => rw [q] at k; cases k
theorem nw_same {A H : Hp} : Same (nw A H) H := fun _ _ k => (nw_inv k).2
theorem nw_mono {A H H' : Hp} (e : Same H H') : Same (nw A H) (nw A H') := fun a o k => nw_get (nw_inv k).1 (e _ _ (nw_inv k).2)
theorem nw_base {A B H : Hp} (e : Sub A B) : Same (nw B H) (nw A H) := fun a o k => nw_get (e a (nw_inv k).1) (nw_inv k).2
theorem nw_put {A H : Hp} {p : Addr} {u o : HO} (h : A p = some u) : Same (nw A H) (nw A (upd H p o)) := fun a v k => by
  obtain ⟨k1, k2⟩ := nw_inv k
  have e : a ≠ p := fun e => by rw [e, h] at k1; cases k1
  exact nw_get k1 (by rw [upd_ne e]; exact k2)
theorem nw_ne {A H : Hp} {a p : Addr} {u o : HO} (h : A p = some u) (k : nw A H a = some o) : a ≠ p := fun e => by
  have := (nw_inv k).1
  rw [e, h] at this
  cases this
theorem tl_nil : tl ("" : Str) = [] := by decide +kernel
theorem isSome_map {α β : Type} {f : α → β} {o : Option α} : (o.map f).isSome = o.isSome := by cases o <;> rfl
/-- a text of signs: its first one, the rest -/
theorem tl_cases (z : Str) : tl z = [] ∨ ∃ c r, tl z = c :: r := by
  cases e : tl z with
  | nil => exact .inl rfl
  | cons c r => exact .inr ⟨c, r, rfl⟩
theorem tl_from (z : Str) (k : Nat) : tl (cutS z (some (k : Int)) none) = (tl z).drop k := tl_drop z k
end Mine

local macro_rules | `(tactic| walk_at "len") => `(tactic| first | assumption | (refine Mine.szOk ?_; first | decide +kernel | ((try simp only [Mine.len_app]); omega)))
local macro_rules | `(tactic| walk_at "sd") => `(tactic| first | assumption | rfl | exact L2.SqL.of (by assumption) | exact L2.SqT.of (by assumption) | exact L2.SqL.of L2.upd_same | exact L2.SqT.of L2.upd_same | exact L2.upd_same | decide | omega)
local macro_rules | `(tactic| walk_at "rd1") => `(tactic| with_reducible first
  | refine Mine.rd_var (by with_unfolding_all rfl) ?_ | refine Mine.rd_c ?_ | refine Mine.rd_op ?_ | refine Mine.rd_seq ?_ | refine Mine.rd_asg ?_ | refine Mine.rd_gname (by (simp only [L2.wipe, List.map, List.set]); first | done | exact rfl) ?_ | refine Mine.rd_wipe (by with_unfolding_all rfl) ?_ | refine Mine.rd_lcT1 ?_
  | refine Mine.rd_test ?_ | refine Mine.rd_tB ?_ | refine Mine.rd_bl ?_ | refine Mine.rd_ifS ?_ | refine Mine.rd_ifE ?_ | refine Mine.rd_and ?_ | refine Mine.rd_or ?_ | refine Mine.rd_not ?_
  | refine Mine.rd_andV ?_ | refine Mine.rd_orV ?_ | refine Mine.rd_notV ?_ | refine Mine.rd_cons ?_ | refine Mine.rd_nil ?_ | refine Mine.rd_call ?_ | refine Mine.rd_callK ?_
  | refine Mine.rd_sp1 ?_ | refine Mine.rd_sp2 ?_ | refine Mine.rd_sp3 ?_ | refine Mine.rd_sp4 ?_ | refine Mine.rd_cb ?_ | refine Mine.rd_bm ?_ | refine Mine.rd_bm0 ?_ | refine Mine.rd_m1 ?_ | refine Mine.rd_m0 ?_
  | refine Mine.rd_sl ?_ | refine Mine.rd_noPart ?_ | refine Mine.rd_part ?_ | refine Mine.rd_int ?_ | refine Mine.rd_chain ?_ | refine Mine.rd_un ?_ | refine Mine.rd_yes ?_ | refine Mine.rd_forR ?_ | refine Mine.rd_forR2 ?_ | refine Mine.rd_lcR ?_ | refine Mine.rd_lcR2 ?_
  | refine Mine.rd_new (by with_unfolding_all rfl) ?_ | refine Mine.rd_lst ?_ | refine Mine.rd_tup ?_ | refine Mine.rd_next ?_ | refine Mine.rd_brk ?_ | refine Mine.rd_cont ?_ | refine Mine.rd_drop ?_ | refine Mine.rd_ret ?_ | refine Mine.rd_retN ?_
  | refine Mine.rd_par ?_ | refine Mine.rd_par2 (by (simp only [List.set]); first | done | exact rfl) ?_ | refine Mine.rd_gsub ?_ | refine Mine.rd_gcons ?_ | refine Mine.rd_gnil ?_ | refine Mine.rd_aug (by with_unfolding_all rfl) ?_ | refine Mine.rd_ipI ?_
  | refine Mine.rd_addI ?_ | refine Mine.rd_subI ?_ | refine Mine.rd_ltI ?_ | refine Mine.rd_leI ?_ | refine Mine.rd_gtI ?_ | refine Mine.rd_geI ?_ | refine Mine.rd_eqI ?_ | refine Mine.rd_eqS ?_ | refine Mine.rd_neI ?_ | refine Mine.rd_neS ?_
  | refine Mine.rd_ltS ?_ | refine Mine.rd_leS ?_ | refine Mine.rd_gtS ?_ | refine Mine.rd_geS ?_ | refine Mine.rd_eqB ?_
  | refine Mine.rd_ixL (L2.SqL.of (by first | assumption | exact L2.upd_same)) (by with_unfolding_all rfl) ?_ | refine Mine.rd_setL (by first | assumption | exact L2.upd_same) (by with_unfolding_all rfl) ?_
  | refine Mine.rd_yT ?_ | refine Mine.rd_nF ?_ | refine Mine.rd_nT ?_ | refine Mine.rd_yF ?_ | refine Mine.rd_isiS ?_ | refine Mine.rd_isiSN ?_ | refine Mine.rd_isiSI ?_ | refine Mine.rd_isiSB ?_ | refine Mine.rd_isiI ?_ | refine Mine.rd_isiIB ?_ | refine Mine.rd_isiIN ?_ | refine Mine.rd_isiIS ?_ | refine Mine.rd_isiB ?_ | refine Mine.rd_isiBI ?_
  | refine Mine.rd_mulS (by first | decide +kernel | omega) (by first | decide | omega) (by first | decide | omega) ?_ | refine Mine.rd_slS (by walk_at "len") ?_ | refine Mine.rd_addS (by walk_at "len") ?_ | refine Mine.rd_lenS (by walk_at "len") ?_
  | refine Mine.rd_inS ?_ | refine Mine.rd_notInS ?_ | refine Mine.rd_is ?_ | refine Mine.rd_isNot ?_ | refine Mine.rd_intI ?_ | refine Mine.rd_intB ?_ | refine Mine.rd_max ?_ | refine Mine.rd_min ?_ | refine Mine.rd_tyS ?_ | refine Mine.rd_isS ?_)
local macro_rules | `(tactic| walk_at "rd") => `(tactic| repeat walk_at "rd1")

namespace Mine
open PySem PySem.Spec PyProof.Rows L2
open TL (tl)
def top (i : Nat) : Stmt := PySem.Challenge.pw_wireshell_k25_which_are_patterns.main.body.getD i (.Pass ⟨0, 0, 0, 0⟩)
abbrev s_items_of : Stmt := top 7
abbrev s_set_at : Stmt := top 8
abbrev s_tokens_of : Stmt := top 9
abbrev s_is_a_pattern : Stmt := top 10
abbrev s_is_pattern : Stmt := top 12
abbrev s_law_deck : Stmt := top 14
abbrev s_law_draw : Stmt := top 15
abbrev s_law_pattern : Stmt := top 16
abbrev s_law_pattern_right : Stmt := top 17
abbrev s_law_items_right : Stmt := top 18
abbrev s_law_bent : Stmt := top 19
abbrev s_law_right : Stmt := top 20
abbrev s_law : Stmt := top 21
theorem sc_items_of : FnScope ["body", "found", "at", "low", "high"] ["body"] (defScope s_items_of) := ⟨rfl, rfl, rfl, by decide +kernel, rfl, by decide +kernel, by decide +kernel⟩
theorem sc_set_at : FnScope ["pattern", "at", "end", "is_none_of", "items"] ["pattern", "at"] (defScope s_set_at) := ⟨rfl, rfl, rfl, by decide +kernel, rfl, by decide +kernel, by decide +kernel⟩
theorem sc_tokens_of : FnScope ["pattern", "found", "at", "sign", "told"] ["pattern"] (defScope s_tokens_of) := ⟨rfl, rfl, rfl, by decide +kernel, rfl, by decide +kernel, by decide +kernel⟩
theorem sc_is_a_pattern : FnScope ["value"] ["value"] (defScope s_is_a_pattern) := ⟨rfl, rfl, rfl, by decide +kernel, rfl, by decide +kernel, by decide +kernel⟩
theorem sc_is_pattern : FnScope ["value"] ["value"] (defScope s_is_pattern) := ⟨rfl, rfl, rfl, by decide +kernel, rfl, by decide +kernel, by decide +kernel⟩
theorem sc_law_deck : FnScope ["script", "k", "cell", "mixed", "number"] ["script", "k"] (defScope s_law_deck) := ⟨rfl, rfl, rfl, by decide +kernel, rfl, by decide +kernel, by decide +kernel⟩
theorem sc_law_draw : FnScope ["deck", "many", "found", "mixed"] ["deck", "many"] (defScope s_law_draw) := ⟨rfl, rfl, rfl, by decide +kernel, rfl, by decide +kernel, by decide +kernel⟩
theorem sc_law_pattern : FnScope ["deck", "most", "found", "turn"] ["deck", "most"] (defScope s_law_pattern) := ⟨rfl, rfl, rfl, by decide +kernel, rfl, by decide +kernel, by decide +kernel⟩
theorem sc_law_pattern_right : FnScope ["value", "left", "end", "body"] ["value"] (defScope s_law_pattern_right) := ⟨rfl, rfl, rfl, by decide +kernel, rfl, by decide +kernel, by decide +kernel⟩
theorem sc_law_items_right : FnScope ["body", "low", "high"] ["body"] (defScope s_law_items_right) := ⟨rfl, rfl, rfl, by decide +kernel, rfl, by decide +kernel, by decide +kernel⟩
theorem sc_law_bent : FnScope ["deck", "text", "turn", "at", "sign"] ["deck", "text"] (defScope s_law_bent) := ⟨rfl, rfl, rfl, by decide +kernel, rfl, by decide +kernel, by decide +kernel⟩
theorem sc_law_right : FnScope ["deck", "values", "value", "due", "turn"] ["deck"] (defScope s_law_right) := ⟨rfl, rfl, rfl, by decide +kernel, rfl, by decide +kernel, by decide +kernel⟩
theorem sc_law : FnScope ["script", "k"] ["script"] (defScope s_law) := ⟨rfl, rfl, rfl, by decide +kernel, rfl, by decide +kernel, by decide +kernel⟩
/-- what the top has left -/
structure Txt (K : PySem.W.Frag) (mg : Str → Option Value) : Prop where
  c_MOST_PATTERN : GK mg "MOST_PATTERN" (.int 40)
  c_ANY : GK mg "ANY" (.str "any")
  c_ONE : GK mg "ONE" (.str "one")
  c_SIGN : GK mg "SIGN" (.str "sign")
  c_SET : GK mg "SET" (.str "set")
  c_NO_ITEMS : GK mg "NO_ITEMS" (.str "[]!-")
  d_items_of : DefAt K mg "items_of" ["body"] s_items_of
  d_set_at : DefAt K mg "set_at" ["pattern", "at"] s_set_at
  d_tokens_of : DefAt K mg "tokens_of" ["pattern"] s_tokens_of
  d_is_a_pattern : DefAt K mg "is_a_pattern" ["value"] s_is_a_pattern
  d_is_pattern : DefAt K mg "is_pattern" ["value"] s_is_pattern
  d_law_deck : DefAt K mg "_law_deck" ["script", "k"] s_law_deck
  d_law_draw : DefAt K mg "_law_draw" ["deck", "many"] s_law_draw
  d_law_pattern : DefAt K mg "_law_pattern" ["deck", "most"] s_law_pattern
  d_law_pattern_right : DefAt K mg "_law_pattern_right" ["value"] s_law_pattern_right
  d_law_items_right : DefAt K mg "_law_items_right" ["body"] s_law_items_right
  d_law_bent : DefAt K mg "_law_bent" ["deck", "text"] s_law_bent
  d_law_right : DefAt K mg "_law_right" ["deck"] s_law_right
  d_law : DefAt K mg "law" ["script"] s_law
  b_int : mg "int" = none
  b_isinstance : mg "isinstance" = none
  b_len : mg "len" = none
  b_max : mg "max" = none
  b_min : mg "min" = none
  b_range : mg "range" = none
  b_repr : mg "repr" = none
  b_str : mg "str" = none
section
variable {P : Program} {w : World} {K : PySem.W.Frag} {mg : Str → Option Value} {base : Heap}
/-! ## The deck: [digits left, a number mixed of all, draws made], and draws from it -/
/-- all that is tracked stays, but for d -/
def Kp (d : Addr) (H H' : Hp) : Prop := ∀ a o, a ≠ d → H a = some o → H' a = some o
theorem Kp.refl (d : Addr) (H : Hp) : Kp d H H := fun _ _ _ h => h
theorem Kp.trans {d : Addr} {H H1 H2 : Hp} (a : Kp d H H1) (b : Kp d H1 H2) : Kp d H H2 := fun c o n h => b c o n (a c o n h)
theorem Kp.new {d p : Addr} {H H' : Hp} {o : HO} (a : Kp d H H') (h : H' p = none) : Kp d H (upd H' p o) := fun c u n e => by
  have e1 := a c u n e
  rw [upd_ne (ne_of_none e1 h)]
  exact e1
theorem Kp.seq {K : PySem.W.Frag} {d a : Addr} {H H' : Hp} {xs : List V} (k : Kp d H H') (n : a ≠ d) (h : SqL K H a xs) : SqL K H' a xs := by
  rcases h with (h | ⟨o, h⟩) | h
  · exact .inl (.inl (k _ _ n h))
  · exact .inl (.inr ⟨o, k _ _ n h⟩)
  · exact .inr h
theorem Kp.free {d a : Addr} {H H' : Hp} (k : Kp d H H') (n : a ≠ d) (h : H' a = none) : H a = none := by
  cases q : H a with
  | none => rfl
  | some o => rw [k a o n q] at h; cases h
theorem Kp.put {d p : Addr} {H H' : Hp} {o : HO} (a : Kp d H H') (h : H p = none) : Kp d H (upd H' p o) := fun c u n e => by
  rw [upd_ne (ne_of_none e h)]
  exact a c u n e
theorem Kp.at {d p : Addr} {H H' : Hp} {o : HO} (k : Kp d (upd H p o) H') (n : d ≠ p) : H' p = some o := k p _ n.symm upd_same
/-- a deck from which at most m draws were made -/
def Dk (d : Addr) (m : Nat) (H : Hp) : Prop := ∃ x y c : Int, H d = some (.lst [.int x, .int y, .int c]) ∧ 0 ≤ x ∧ 0 ≤ y ∧ y < 10 ^ 31 ∧ 0 ≤ c ∧ c ≤ m
theorem Dk.mono {d : Addr} {m n : Nat} {H : Hp} (h : Dk d m H) (l : m ≤ n) : Dk d n H := by
  obtain ⟨x, y, c, h1, h2, h3, h4, h5, h6⟩ := h
  exact ⟨x, y, c, h1, h2, h3, h4, h5, by omega⟩
theorem Dk.new {d p : Addr} {m : Nat} {H : Hp} {o : HO} (h : Dk d m H) (n : H p = none) : Dk d m (upd H p o) := by
  obtain ⟨x, y, c, h1, h2⟩ := h
  refine ⟨x, y, c, ?_, h2⟩
  rw [upd_ne (ne_of_none h1 n)]
  exact h1
theorem Dk.put {d p : Addr} {m : Nat} {H : Hp} {o : HO} (h : Dk d m H) (n : d ≠ p) : Dk d m (upd H p o) := by
  obtain ⟨x, y, c, h1, h2⟩ := h
  exact ⟨x, y, c, by rw [upd_ne n]; exact h1, h2⟩
theorem Dk.ne {d p : Addr} {m : Nat} {H : Hp} (h : Dk d m H) (n : H p = none) : d ≠ p := by
  obtain ⟨x, y, c, h1, h2⟩ := h
  exact ne_of_none h1 n
/-- draws that may be made at all -/
def LIM : Nat := 1000000000
def Φ_law_draw (K : PySem.W.Frag) (vd vm : V) (H : Hp) (Q : VK) : Prop := ∃ (d : Addr) (n : Int) (m : Nat), vd = .ref d ∧ vm = .int n ∧ 0 < n ∧ n < 1073741824 ∧ Dk d m H ∧ m < LIM ∧
  ∀ (v : Int) (H' : Hp), 0 ≤ v → v < n → Dk d (m + 1) H' → Kp d H H' → Q (.int v) H'
theorem use_draw {K : PySem.W.Frag} {d : Addr} {n : Int} {m : Nat} {H : Hp} {Q : VK} (hd : Dk d m H) (h0 : 0 < n) (h1 : n < 1073741824) (hm : m < LIM)
    (q : ∀ (v : Int) (H' : Hp), 0 ≤ v → v < n → Dk d (m + 1) H' → Kp d H H' → Q (.int v) H') : Φ_law_draw K (.ref d) (.int n) H Q := ⟨d, n, m, rfl, rfl, h0, h1, hd, hm, q⟩
theorem divOk {i j : Int} (h0 : 0 < j) (h1 : j < 1073741824) : CDivW i j := wide_div (b := 64) h0 (by omega) (by decide) (by decide)
theorem bits_lt {i : Int} {n : Nat} (h0 : 0 ≤ i) (h1 : i < 2 ^ n) (hn : 0 < n) : Builtin.Int.intBits i ≤ n := by
  unfold Builtin.Int.intBits
  split
  · omega
  · have : i.natAbs < 2 ^ n := by
      have e : ((2 ^ n : Nat) : Int) = 2 ^ n := by norm_cast
      omega
    have := PySem.Flt.log2_lt_of hn this
    omega
theorem ok_law_draw (T : Txt K mg) {f : Addr} {fd : FuncData} (F : Fun K "_law_draw" "_law_draw" s_law_draw f fd) : Keeps P w K mg base CX0 1 f fd ["deck", "many"] (sp2 (Φ_law_draw K)) := by
  refine keeps0_of F sc_law_draw (fun vs H Q E h => ?_) (fun cdv A outer s H vs Q E hr h => ?_)
  · obtain ⟨_, _, rfl, _⟩ := h
    rfl
  obtain ⟨v_deck, v_many, rfl, h⟩ := h
  have hu := hr.hu
  refine ⟨_, (pss_cons (ps_if (pt_cmpR oGt (pe_ix (ixX (K := K)) (pv 0) pe_int (fun _ _ => rfl)) pe_int (nomark _)) (pss_cons (ps_set (i := 2) sc_law_draw.nd rfl (by first | exact Or.inl rfl | exact Or.inr rfl) (pe_op oMod (pe_callTy call_intX (by rfl) T.b_int (by decide +kernel) (pa_cons (pe_ix (ixX (K := K)) (pv 0) pe_int (fun _ _ => rfl)) pa_nil)) (pv 1)))
      (pss_cons (ps_asg (pe_op oDiv (pe_ix (ixX (K := K)) (pv 0) pe_int (fun _ _ => rfl)) (pv 1)) (pg_sub (pv 0) pe_int set_list))
      (pss_one (ps_ret (pv 2))))) pss_nil)
      (pss_cons (ps_asg (pe_op (oAdd (K := K)) (pe_ix (ixX (K := K)) (pv 0) pe_int (fun _ _ => rfl)) pe_int) (pg_sub (pv 0) pe_int set_list))
      (pss_cons (ps_set (i := 3) sc_law_draw.nd rfl (by first | exact Or.inl rfl | exact Or.inr rfl) (pe_op oMod (pe_callTy call_intX (by rfl) T.b_int (by decide +kernel) (pa_cons (pe_op (oAdd (K := K)) (pe_op oPow (pe_op (oAdd (K := K)) (pe_ix (ixX (K := K)) (pv 0) pe_int (fun _ _ => rfl)) (pe_op (oMul (K := K)) pe_int (pe_ix (ixX (K := K)) (pv 0) pe_int (fun _ _ => rfl)))) pe_int) (pe_op (oMul (K := K)) pe_int (pe_ix (ixX (K := K)) (pv 0) pe_int (fun _ _ => rfl)))) pa_nil)) (pe_op (oAdd (K := K)) (pe_op oPow pe_int pe_int) pe_int)))
      (pss_cons (ps_set (i := 3) sc_law_draw.nd rfl (by first | exact Or.inl rfl | exact Or.inr rfl) (pe_op oMod (pe_callTy call_intX (by rfl) T.b_int (by decide +kernel) (pa_cons (pe_op (oAdd (K := K)) (pe_op (oAdd (K := K)) (pe_op (oMul (K := K)) (pv 3) (pv 3)) (pe_ix (ixX (K := K)) (pv 0) pe_int (fun _ _ => rfl))) (pe_op (oMul (K := K)) pe_int (pe_ix (ixX (K := K)) (pv 0) pe_int (fun _ _ => rfl)))) pa_nil)) (pe_op (oAdd (K := K)) (pe_op oPow pe_int pe_int) pe_int)))
      (pss_one (ps_ret (pe_op oMod (pe_callTy call_intX (by rfl) T.b_int (by decide +kernel) (pa_cons (pe_op oDiv (pv 3) pe_int) pa_nil)) (pv 1)))))))), ?_⟩
  rw [show start ["deck", "many", "found", "mixed"] [v_deck, v_many] = [some v_deck, some v_many, none, none] from rfl]
  try dsimp only [cxOf, Cx.nox, Cx.wish]
  obtain ⟨d, n, m, rfl, rfl, hn0, hn1, ⟨x, y, c, hd, hx, hy0, hy1, hc0, hc1⟩, hm, q⟩ := h
  walk_at "rd"
  refine rd_ite (fun hp => ?_) (fun hp => ?_)
  · walk_at "rd"
    refine rd_modI hn0 ?_
    walk_at "rd"
    refine rd_divI (divOk hn0 hn1) ?_
    walk_at "rd"
    refine q _ _ (Int.emod_nonneg _ (by omega)) (Int.emod_lt_of_pos _ hn0) ⟨x / n, y, c, upd_same, Int.ediv_nonneg hx (by omega), hy0, hy1, hc0, by omega⟩ fun a o ne e => ?_
    rw [upd_ne ne]
    exact e
  · walk_at "rd"
    refine rd_mulI (IntMulOk.of_left (by decide)) ?_
    walk_at "rd"
    have b0 : y + 7368787 * (c + 1) < 2 ^ 200 := by
      have : m < 1000000000 := hm
      omega
    refine rd_powI ⟨by decide, ?_⟩ ?_
    · have := bits_lt (n := 200) (by omega) b0 (by decide)
      omega
    walk_at "rd"
    refine rd_mulI (IntMulOk.of_left (by decide)) ?_
    walk_at "rd"
    refine rd_powI ⟨by decide, by decide⟩ ?_
    walk_at "rd"
    refine rd_modL (by decide) fun z hz0 hz1 => ?_
    walk_at "rd"
    have hz2 : z < 2 ^ 200 := Int.lt_trans hz1 (by decide)
    refine rd_mulI (CMulW.ok (wide_mul (a := 200) (b := 200) (by omega) (by omega) (by decide) (by decide) (by decide))) ?_
    walk_at "rd"
    refine rd_mulI (IntMulOk.of_left (by decide)) ?_
    walk_at "rd"
    refine rd_powI ⟨by decide, by decide⟩ ?_
    walk_at "rd"
    refine rd_modL (by decide) fun z2 _ _ => ?_
    walk_at "rd"
    refine rd_divI (divOk (by decide) (by decide)) ?_
    walk_at "rd"
    refine rd_modL hn0 fun z3 h30 h31 => ?_
    refine q _ _ h30 h31 ⟨x, y, c + 1, upd_same, hx, hy0, hy1, by omega, by omega⟩ fun a o ne e => ?_
    rw [upd_ne ne]
    exact e
def Φ_law_deck (K : PySem.W.Frag) (vs vk : V) (H : Hp) (Q : VK) : Prop := ∃ (a : Addr) (ns : List Int) (k : Int), vs = .ref a ∧ vk = .int k ∧ SqL K H a (ns.map V.int) ∧ ns.length ≤ 63 ∧ 0 ≤ k ∧ k < 64 ∧
  ∀ (d : Addr) (H' : Hp), H d = none → Dk d 0 H' → Same H H' → Q (.ref d) H'
theorem atI_int {ns : List Int} {k : Int} (h0 : 0 ≤ k) (h1 : k < ns.length) : ∃ z, atI (ns.map V.int) k = some (V.int z) := by
  obtain ⟨j, rfl⟩ : ∃ j : Nat, k = (j : Int) := ⟨k.toNat, by omega⟩
  have hj : j < ns.length := by omega
  exact ⟨ns[j], atI_nat (by rw [List.getElem?_map, List.getElem?_eq_getElem hj]; rfl)⟩
theorem ok_law_deck (T : Txt K mg) {f : Addr} {fd : FuncData} (F : Fun K "_law_deck" "_law_deck" s_law_deck f fd) : Keeps P w K mg base CX0 1 f fd ["script", "k"] (sp2 (Φ_law_deck K)) := by
  refine keeps0_of F sc_law_deck (fun vs H Q E h => ?_) (fun cdv A outer s H vs Q E hr h => ?_)
  · obtain ⟨_, _, rfl, _⟩ := h
    rfl
  obtain ⟨v_script, v_k, rfl, h⟩ := h
  have hu := hr.hu
  refine ⟨_, (pss_cons (ps_set (i := 2) sc_law_deck.nd rfl (by first | exact Or.inl rfl | exact Or.inr rfl) (pe_op (oAdd (K := K)) (pe_op (oMul (K := K)) pe_int (pv 1)) pe_int))
      (pss_cons (ps_set (i := 3) sc_law_deck.nd rfl (by first | exact Or.inl rfl | exact Or.inr rfl) (pe_op (oAdd (K := K)) pe_int (pv 1)))
      (pss_meet (ps_if (pt_cmpR oLt (pv 1) (pe_callB (call_lenX (K := K)) (by rfl) T.b_len (by decide +kernel) (pa_cons (pv 0) pa_nil)) (nomark _)) (pss_one (ps_set (i := 2) sc_law_deck.nd rfl (by first | exact Or.inl rfl | exact Or.inr rfl) (pe_op oMod (pe_callTy call_intX (by rfl) T.b_int (by decide +kernel) (pa_cons (pe_ix (ixX (K := K)) (pv 0) (pv 1) (fun _ _ => rfl)) pa_nil)) (pe_op (oAdd (K := K)) (pe_op oPow pe_int pe_int) pe_int)))) pss_nil)
      (pss_cons (ps_for PassesOwn.never rfl (pi_any (K := K) (pv 0)) (pg_name (i := 4) sc_law_deck.nd rfl (by first | exact Or.inl rfl | exact Or.inr rfl)) (pss_one (ps_set (i := 3) sc_law_deck.nd rfl (by first | exact Or.inl rfl | exact Or.inr rfl) (pe_op oMod (pe_callTy call_intX (by rfl) T.b_int (by decide +kernel) (pa_cons (pe_op (oAdd (K := K)) (pe_op (oAdd (K := K)) (pe_op (oMul (K := K)) (pv 3) pe_int) (pe_op oMod (pe_callTy call_intX (by rfl) T.b_int (by decide +kernel) (pa_cons (pv 4) pa_nil)) (pe_op (oAdd (K := K)) (pe_op oPow pe_int pe_int) pe_int))) pe_int) pa_nil)) (pe_op (oAdd (K := K)) (pe_op oPow pe_int pe_int) pe_int)))))
      (pss_one (ps_ret (pe_lst (pa_cons (pe_callB (call_maxX rfl) (by rfl) T.b_max (by decide +kernel) (pa_cons pe_int (pa_cons (pe_op oSub (pv 2) (pe_op oPow pe_int pe_int)) pa_nil))) (pa_cons (pe_op (oAdd (K := K)) (pe_op (oMul (K := K)) (pv 3) pe_int) (pe_op oMod (pe_callTy call_intX (by rfl) T.b_int (by decide +kernel) (pa_cons (pv 2) pa_nil)) (pe_op (oAdd (K := K)) (pe_op oPow pe_int pe_int) pe_int))) (pa_cons pe_int pa_nil)))))))))), ?_⟩
  rw [show start ["script", "k", "cell", "mixed", "number"] [v_script, v_k] = [some v_script, some v_k, none, none, none] from rfl]
  try dsimp only [cxOf, Cx.nox, Cx.wish]
  obtain ⟨a, ns, k, rfl, rfl, hS, hl, h0, h1, q⟩ := h
  walk_at "rd"
  refine rd_mulI (IntMulOk.of_left (by decide)) ?_
  walk_at "rd"
  refine rd_meet (fun σ' H' => H = H' ∧ ∃ c : Int, 0 ≤ c ∧ σ' = [some (.ref a), some (.int k), some (.int c), some (.int (7 + k)), none]) ?_ ?_
  · walk_at "rd"
    refine rd_lenL hS ?_
    walk_at "rd"
    refine rd_ite (fun hp => ?_) (fun hp => ?_)
    · have hk : k < ns.length := by simpa using hp
      obtain ⟨z, hz⟩ := atI_int h0 hk
      walk_at "rd"
      refine rd_ixL hS hz ?_
      walk_at "rd"
      refine rd_powI ⟨by decide, by decide⟩ ?_
      walk_at "rd"
      refine rd_modL (by decide) fun c c0 _ => ?_
      walk_at "rd"
      exact ⟨rfl, c, c0, rfl⟩
    · walk_at "rd"
      exact ⟨rfl, 17 * k + 3, by omega, rfl⟩
  rintro _ _ ⟨rfl, c, hc, rfl⟩
  walk_at "rd"
  refine rd_forL ?_
  walk_at "rd"
  refine rd_itL hS (fun _ σ H1 => H = H1 ∧ ∃ (z : Int) (v : Option V), 0 ≤ z ∧ z < 10 ^ 30 ∧ σ = [some (.ref a), some (.int k), some (.int c), some (.int z), v]) ⟨rfl, 7 + k, none, by omega, by omega, rfl⟩ ?_ ?_ ?_
  · rintro i σ H1 _ ⟨rfl, _⟩
    exact hS
  · rintro i x σ H1 hi ⟨rfl, z, v, z0, z1, rfl⟩
    obtain ⟨y, rfl⟩ : ∃ y, x = V.int y := by
      rw [List.getElem?_map] at hi
      cases e : ns[i]? with
      | none => rw [e] at hi; cases hi
      | some y => rw [e] at hi; exact ⟨y, (Option.some.inj hi).symm⟩
    walk_at "rd"
    refine rd_mulI (IntMulOk.of_right (by decide)) ?_
    walk_at "rd"
    refine rd_powI ⟨by decide, by decide⟩ ?_
    walk_at "rd"
    refine rd_modL (by decide) fun u _ _ => ?_
    walk_at "rd"
    refine rd_powI ⟨by decide, by decide⟩ ?_
    walk_at "rd"
    refine rd_modL (by decide) fun t t0 t1 => ?_
    walk_at "rd"
    exact ⟨rfl, t, _, t0, Int.lt_trans t1 (by decide), rfl⟩
  · rintro σ H1 ⟨rfl, z, v, z0, z1, rfl⟩
    walk_at "rd"
    refine rd_powI ⟨by decide, by decide⟩ ?_
    walk_at "rd"
    refine rd_mulI (IntMulOk.of_right (by decide)) ?_
    walk_at "rd"
    refine rd_powI ⟨by decide, by decide⟩ ?_
    walk_at "rd"
    refine rd_modL (by decide) fun t t0 t1 => ?_
    walk_at "rd"
    intro d hd
    walk_at "rd"
    have t2 : t < 10 ^ 22 := Int.lt_trans t1 (by decide)
    refine q d _ hd ⟨_, _, 0, upd_same, by omega, by omega, by omega, by omega, by omega⟩ fun b o e => ?_
    rw [upd_ne (ne_of_none e hd)]
    exact e
/-- a promise: draws at most c, a text of at most L signs -/
def TxtOf (L c : Nat) (vd : V) (H : Hp) (Q : VK) : Prop := ∃ (d : Addr) (m : Nat), vd = .ref d ∧ Dk d m H ∧ m + c ≤ LIM ∧ ∀ (z : Str) (H' : Hp), z.length ≤ L → Dk d (m + c) H' → Kp d H H' → Q (.str z) H'
/-- a promise: draws at most 10, a text of at most two signs more -/
def BentOf (K : PySem.W.Frag) (vd vp : V) (H : Hp) (Q : VK) : Prop := ∃ (d : Addr) (z : Str) (m : Nat), vd = .ref d ∧ vp = .str z ∧ z.length ≤ 500 ∧ Dk d m H ∧ m + 10 ≤ LIM ∧
  ∀ (y : Str) (H' : Hp), y.length ≤ z.length + 2 → Dk d (m + 10) H' → Kp d H H' → Q (.str y) H'

/-! ## Patterns: what stands between the brackets, the pieces -/
def BADS : Str := "[]!-"
def bad (c : Nat) : Bool := decide (c ∈ tl BADS)
/-- the high sign behind a low one, and what is left -/
def hiOf (c : Nat) (r : List Nat) : List Nat × List Nat := if r.take 1 = [45] then ((r.drop 1).take 1, r.drop 2) else ([c], r)
theorem hiOf_le (c : Nat) (r : List Nat) : (hiOf c r).2.length ≤ r.length := by
  unfold hiOf
  split
  · rw [List.length_drop]; exact Nat.sub_le _ _
  · exact Nat.le_refl _
theorem hiOf_one (c : Nat) (r : List Nat) : (hiOf c r).1.length ≤ 1 := by
  unfold hiOf
  split
  · rw [List.length_take]; omega
  · exact Nat.le_refl _
def itemOk (c : Nat) : List Nat → Bool
  | [h] => !(bad c || bad h || decide (h < c))
  | _ => false
def itemsN : Nat → List Nat → Option (List (Nat × List Nat))
  | _, [] => some []
  | 0, _ => none
  | n + 1, c :: r => if itemOk c (hiOf c r).1 = true then (itemsN n (hiOf c r).2).map ((c, (hiOf c r).1) :: ·) else none
theorem itemsN_more : ∀ {n m : Nat} {l : List Nat}, l.length ≤ n → l.length ≤ m → itemsN n l = itemsN m l
  | n, m, [], _, _ => by cases n <;> cases m <;> rfl
  | 0, _, c :: r, h, _ => by cases h
  | _, 0, c :: r, _, h => by cases h
  | n + 1, m + 1, c :: r, h1, h2 => by
    have h3 := hiOf_le c r
    rw [List.length_cons] at h1 h2
    show (if _ then _ else _) = (if _ then _ else _)
    rw [itemsN_more (n := n) (m := m) (l := (hiOf c r).2) (by omega) (by omega)]
/-- the items of a set, each a low sign and (a row of) the high one -/
def itemsL (l : List Nat) : Option (List (Nat × List Nat)) := itemsN l.length l
theorem itemsL_nil : itemsL [] = some [] := rfl
theorem itemsL_cons (c : Nat) (r : List Nat) : itemsL (c :: r) = if itemOk c (hiOf c r).1 = true then (itemsL (hiOf c r).2).map ((c, (hiOf c r).1) :: ·) else none := by
  have h3 := hiOf_le c r
  show (if _ then _ else _) = _
  rw [itemsN_more (n := r.length) (m := (hiOf c r).2.length) h3 (Nat.le_refl _)]
  rfl
inductive Tk where
  | any | one | sign (c : Nat) | set (neg : Bool) (its : List (Nat × List Nat))
def negOf (s : List Nat) : Bool := decide (s.take 1 = [33])
/-- what stands behind [: the set, what is left -/
def setL (s : List Nat) : Option (Tk × List Nat) := match cutAt 93 s with
  | none => none
  | some (b, t) => match itemsL (b.drop (if negOf s then 1 else 0)) with
    | some (i :: is) => some (.set (negOf s) (i :: is), t)
    | _ => none
theorem setL_lt {s : List Nat} {k : Tk} {t : List Nat} (h : setL s = some (k, t)) : t.length < s.length := by
  unfold setL at h
  split at h
  · cases h
  · rename_i b t' e
    obtain ⟨e1, _⟩ := cutAt_some e
    split at h
    · cases h
      rw [e1, List.length_append, List.length_cons]
      omega
    · cases h
def tkOf (c : Nat) : Tk := if c = 42 then .any else if c = 63 then .one else .sign c
/-- one piece, what is left -/
def tokStep (c : Nat) (r : List Nat) : Option (Tk × List Nat) := if c = 91 then setL r else some (tkOf c, r)
theorem tokStep_le {c : Nat} {r t : List Nat} {k : Tk} (h : tokStep c r = some (k, t)) : t.length ≤ r.length := by
  unfold tokStep at h
  split at h
  · exact Nat.le_of_lt (setL_lt h)
  · cases h; exact Nat.le_refl _
def toksN : Nat → List Nat → Option (List Tk)
  | _, [] => some []
  | 0, _ => none
  | n + 1, c :: r => match tokStep c r with
    | none => none
    | some (k, t) => (toksN n t).map (k :: ·)
theorem toksN_more : ∀ {n m : Nat} {l : List Nat}, l.length ≤ n → l.length ≤ m → toksN n l = toksN m l
  | n, m, [], _, _ => by cases n <;> cases m <;> rfl
  | 0, _, c :: r, h, _ => by cases h
  | _, 0, c :: r, _, h => by cases h
  | n + 1, m + 1, c :: r, h1, h2 => by
    rw [List.length_cons] at h1 h2
    unfold toksN
    cases e : tokStep c r with
    | none => rfl
    | some p =>
      obtain ⟨k, t⟩ := p
      have h3 := tokStep_le e
      show (toksN n t).map _ = (toksN m t).map _
      rw [toksN_more (n := n) (m := m) (l := t) (by omega) (by omega)]
/-- the pieces of a pattern -/
def toks (l : List Nat) : Option (List Tk) := toksN l.length l
theorem toks_nil : toks [] = some [] := rfl
theorem toks_cons (c : Nat) (r : List Nat) : toks (c :: r) = (match tokStep c r with | none => none | some (k, t) => (toks t).map (k :: ·)) := by
  show toksN (r.length + 1) (c :: r) = _
  unfold toksN
  cases e : tokStep c r with
  | none => rfl
  | some p =>
    obtain ⟨k, t⟩ := p
    have h3 := tokStep_le e
    show (toksN r.length t).map _ = (toks t).map _
    unfold toks
    rw [toksN_more (n := r.length) (m := t.length) (l := t) h3 (Nat.le_refl _)]
theorem toks_step {c : Nat} {r t : List Nat} {k : Tk} (h : tokStep c r = some (k, t)) : toks (c :: r) = (toks t).map (k :: ·) := by rw [toks_cons, h]
theorem toks_stop {c : Nat} {r : List Nat} (h : tokStep c r = none) : toks (c :: r) = none := by rw [toks_cons, h]
def ItAt (H : Hp) (v : V) (p : Nat × List Nat) : Prop := ∃ (t : Addr) (h : Str), v = .ref t ∧ tl h = p.2 ∧ H t = some (.tup [.str ⟨#[p.1]⟩, .str h])
theorem ItAt.mono {H H' : Hp} {v : V} {p : Nat × List Nat} (e : Same H H') (h : ItAt H v p) : ItAt H' v p := by
  obtain ⟨t, s, h1, h2, h3⟩ := h
  exact ⟨t, s, h1, h2, e _ _ h3⟩
def TkAt (H : Hp) (v : V) : Tk → Prop
  | .any => ∃ t, v = .ref t ∧ H t = some (.tup [.str "any"])
  | .one => ∃ t, v = .ref t ∧ H t = some (.tup [.str "one"])
  | .sign c => ∃ t, v = .ref t ∧ H t = some (.tup [.str "sign", .str ⟨#[c]⟩])
  | .set neg its => ∃ t l xs, v = .ref t ∧ H t = some (.tup [.str "set", .bl neg, .ref l]) ∧ H l = some (.lst xs) ∧ Paired (ItAt H) xs its
theorem its_mono {H H' : Hp} (e : Same H H') {xs : List V} {ps : List (Nat × List Nat)} (h : Paired (ItAt H) xs ps) : Paired (ItAt H') xs ps := L2.Paired.mapP h fun _ _ q => q.mono e
theorem TkAt.mono {H H' : Hp} {v : V} {k : Tk} (e : Same H H') (h : TkAt H v k) : TkAt H' v k := by
  cases k with
  | any => obtain ⟨t, h1, h2⟩ := h; exact ⟨t, h1, e _ _ h2⟩
  | one => obtain ⟨t, h1, h2⟩ := h; exact ⟨t, h1, e _ _ h2⟩
  | sign c => obtain ⟨t, h1, h2⟩ := h; exact ⟨t, h1, e _ _ h2⟩
  | set n i => obtain ⟨t, l, xs, h1, h2, h3, h4⟩ := h; exact ⟨t, l, xs, h1, e _ _ h2, e _ _ h3, its_mono e h4⟩
theorem tks_mono {H H' : Hp} (e : Same H H') {xs : List V} {ks : List Tk} (h : Paired (TkAt H) xs ks) : Paired (TkAt H') xs ks := L2.Paired.mapP h fun _ _ q => q.mono e
def Φ_items_of (K : PySem.W.Frag) (v : V) (H : Hp) (Q : VK) : Prop := ∃ z : Str, v = .str z ∧ z.length ≤ 1000 ∧
  (itemsL (tl z) = none ∨ itemsL (tl z) = some [] → ∀ H', Same H H' → Q .non H') ∧
  ∀ i is, itemsL (tl z) = some (i :: is) → ∀ (H' : Hp) (l : Addr) (xs : List V), Same H H' → nw H H' l = some (.lst xs) → Paired (ItAt (nw H H')) xs (i :: is) → Q (.ref l) H'
theorem bad_in (s : Str) (c : Nat) (h : tl s = [c]) : inS s BADS = bad c := by
  have : s = ⟨#[c]⟩ := str_ext h
  rw [this, inS_sign]
  rfl
theorem lt_sign (a b : Nat) : decide ([a] < [b]) = decide (a < b) := by
  refine decide_eq_decide.mpr ?_
  rw [List.cons_lt_cons_iff]
  constructor
  · rintro (h | ⟨_, h⟩)
    · exact h
    · exact absurd h (List.not_lt_nil _)
  · exact Or.inl
theorem ok_items_of (T : Txt K mg) {f : Addr} {fd : FuncData} (F : Fun K "items_of" "items_of" s_items_of f fd) : Keeps P w K mg base CX0 1 f fd ["body"] (sp1 (Φ_items_of K)) := by
  refine keeps0_of F sc_items_of (fun vs H Q E h => ?_) (fun cdv A outer s H vs Q E hr h => ?_)
  · obtain ⟨_, rfl, _⟩ := h
    rfl
  obtain ⟨v_body, rfl, h⟩ := h
  have hu := hr.hu
  refine ⟨_, (pss_cons (ps_par (i := 1) (j := 2) rfl sc_items_of.nd rfl rfl (by decide) rfl rfl (pa_cons (pe_lst pa_nil) (pa_cons pe_int pa_nil)) (by rfl))
      (pss_cons (ps_while PassesOwn.never (pt_cmpR oLt (pv 2) (pe_callB (call_lenX (K := K)) (by rfl) T.b_len (by decide +kernel) (pa_cons (pv 0) pa_nil)) (nomark _)) (pss_cons (ps_par (i := 3) (j := 4) rfl sc_items_of.nd rfl rfl (by decide) rfl rfl (pa_cons (pe_ix (ixX (K := K)) (pv 0) (pv 2) (fun _ _ => rfl)) (pa_cons (pe_ix (ixX (K := K)) (pv 0) (pv 2) (fun _ _ => rfl)) pa_nil)) (by rfl))
      (pss_cons (ps_aug (i := 2) sc_items_of.nd rfl (by first | exact Or.inl rfl | exact Or.inr rfl) pe_int ip_add)
      (pss_meet (ps_if (pt_cmpR (oEq (K := K) hr.u65) (pe_slice (sX (K := K)) (pv 0) (po_some (pv 2)) (po_some (pe_op (oAdd (K := K)) (pv 2) pe_int))) pe_str (nomark _)) (pss_cons (ps_set (i := 4) sc_items_of.nd rfl (by first | exact Or.inl rfl | exact Or.inr rfl) (pe_slice (sX (K := K)) (pv 0) (po_some (pe_op (oAdd (K := K)) (pv 2) pe_int)) (po_some (pe_op (oAdd (K := K)) (pv 2) pe_int))))
      (pss_one (ps_aug (i := 2) sc_items_of.nd rfl (by first | exact Or.inl rfl | exact Or.inr rfl) pe_int ip_add))) pss_nil)
      (pss_cons (ps_if (PW.pt (pw_or (pt_cmpR (oEq (K := K) hr.u65) (pv 4) pe_str (nomark _)) (pw_or (pt_cmpR (oIn (K := K)) (pv 3) (pe_gk (by rfl) T.c_NO_ITEMS) (by rfl)) (pw_or (pt_cmpR (oIn (K := K)) (pv 4) (pe_gk (by rfl) T.c_NO_ITEMS) (by rfl)) (pw_or1 (pt_cmpR oLt (pv 4) (pv 3) (nomark _))))))) (pss_one (ps_ret pe_non)) pss_nil)
      (pss_one (ps_expr (pe_bmX (K := K) PySem.F.plainAttrs_list PySem.F.slot_list_append PySem.F.type_list_append mt_append (pv 1) (pa_cons (pe_tup (pa_cons (pv 3) (pa_cons (pv 4) pa_nil))) pa_nil)))))))))
      (pss_one (ps_ret (pe_ifExp (pt_cmpR (oNe (K := K) hr.u65) (pv 1) (pe_lst pa_nil) (nomark _)) (pv 1) pe_non))))), ?_⟩
  rw [show start ["body", "found", "at", "low", "high"] [v_body] = [some v_body, none, none, none, none] from rfl]
  try dsimp only [cxOf, Cx.nox, Cx.wish]
  obtain ⟨z, rfl, hz, q0, q1⟩ := h
  walk_at "rd"
  intro p hp
  walk_at "rd"
  refine rd_while (fun m σ H' => ∃ (i : Nat) (acc : List (Nat × List Nat)) (xs : List V) (a b : Option V), m = z.length - i ∧ xs.length ≤ i ∧ Same H H' ∧ H' p = some (.lst xs) ∧ Paired (ItAt (nw (upd H p (.lst [])) H')) xs acc ∧ itemsL (tl z) = (itemsL ((tl z).drop i)).map (acc ++ ·) ∧ σ = [some (.str z), some (.ref p), some (.int (i : Int)), a, b])
    z.length ⟨0, [], [], none, none, rfl, Nat.le_refl _, (Same.refl H).new hp, upd_same, .nil, by rw [List.drop_zero]; cases itemsL (tl z) <;> rfl, rfl⟩ ?_
  rintro m σ H1 ⟨i, acc, xs, a, b, rfl, hx, k1, h1, pr, eq, rfl⟩
  walk_at "rd"
  refine rd_ite (fun hc => ?_) (fun hc => ?_)
  rotate_left
  · have hi : z.length ≤ i := by have := of_decide_eq_false hc; omega
    rw [List.drop_of_length_le (by rw [len_tl]; exact hi), itemsL_nil, Option.map_some, List.append_nil] at eq
    walk_at "rd"
    intro l hl
    have pl : p ≠ l := ne_of_none h1 hl
    refine rd_neNil (SqL.of (by rw [upd_ne pl]; exact h1)) (SqL.of upd_same) ?_
    walk_at "rd"
    cases pr with
    | nil =>
      walk_at "rd"
      exact q0 (.inr eq) _ (k1.new hl)
    | cons r rs =>
      refine rd_yesI rfl ?_
      walk_at "rd"
      exact q1 _ _ eq _ _ _ (k1.new hl) (nw_get hp (by rw [upd_ne pl]; exact h1)) (its_mono ((nw_base (Sub.refl H).upd).trans (nw_mono ((Same.refl H1).new (o := .lst []) hl))) (.cons r rs))
  have hi : i < z.length := by have := of_decide_eq_true hc; omega
  refine rd_turn ?_
  obtain ⟨c, r, hr'⟩ : ∃ c r, (tl z).drop i = c :: r := by
    cases e : (tl z).drop i with
    | nil => have := congrArg List.length e; rw [List.length_drop, len_tl] at this; simp at this; omega
    | cons c r => exact ⟨c, r, rfl⟩
  obtain ⟨hg, _, hd⟩ := drop_ne hr'
  rw [hr', itemsL_cons] at eq
  walk_at "rd"
  refine rd_ixS (c := c) (szOk (by omega)) (atI_nat hg) ?_
  walk_at "rd"
  refine rd_ixS (c := c) (szOk (by omega)) (atI_nat hg) ?_
  walk_at "rd"
  refine rd_meet (fun σ' H' => H1 = H' ∧ ∃ (j : Nat) (s : Str), i < j ∧ tl s = (hiOf c r).1 ∧ (tl z).drop j = (hiOf c r).2 ∧ σ' = [some (.str z), some (.ref p), some (.int (j : Int)), some (.str ⟨#[c]⟩), some (.str s)]) ?_ ?_
  · walk_at "rd"
    rw [dec_tl, show ((i : Int) + 1 + 1) = ((i + 2 : Nat) : Int) by omega, show ((i : Int) + 1) = ((i + 1 : Nat) : Int) by omega, tl_mid _ _ _ (by omega), hd, show i + 2 - (i + 1) = 1 by omega, show tl ("-" : Str) = [45] by decide +kernel]
    refine rd_ite (fun h2 => ?_) (fun h2 => ?_)
    · have h2 := of_decide_eq_true h2
      walk_at "rd"
      refine ⟨rfl, i + 3, _, by omega, ?_, ?_, by simp only [List.set]; rfl⟩
      · rw [show (((i + 1 : Nat) : Int) + 1) = ((i + 2 : Nat) : Int) by omega, show (((i + 1 : Nat) : Int) + 2) = ((i + 3 : Nat) : Int) by omega, tl_mid _ _ _ (by omega)]
        unfold hiOf
        rw [if_pos h2, ← hd, List.drop_drop, show i + 3 - (i + 2) = 1 by omega]
      · unfold hiOf
        rw [if_pos h2, ← hd]
        show _ = List.drop 2 (List.drop (i + 1) (tl z))
        rw [List.drop_drop]
    · have h2 := of_decide_eq_false h2
      walk_at "rd"
      refine ⟨rfl, i + 1, ⟨#[c]⟩, by omega, ?_, ?_, rfl⟩
      · unfold hiOf
        rw [if_neg h2]
      · unfold hiOf
        rw [if_neg h2]
        exact hd
  rintro _ _ ⟨rfl, j, s, hj, hs, hdj, rfl⟩
  have hl1 := hiOf_one c r
  rw [← hs, ← hdj] at eq
  rw [← hs] at hl1
  clear hs hdj
  have inv (hok : itemOk c (tl s) = false) : itemsL (tl z) = none := by rw [eq, hok]; rfl
  walk_at "rd"
  rw [dec_tl, show tl ("" : Str) = [] by decide +kernel]
  cases es : tl s with
  | nil =>
    rw [es] at inv
    walk_at "rd"
    exact q0 (.inl (inv rfl)) _ k1
  | cons h t =>
  have ht : t = [] := by
    cases t with
    | nil => rfl
    | cons _ _ => rw [es] at hl1; exact absurd hl1 (by simp)
  subst ht
  have hok : itemOk c [h] = !(bad c || bad h || decide (h < c)) := rfl
  rw [es, hok] at eq
  rw [decide_eq_false (List.cons_ne_nil h [])]
  walk_at "rd"
  rw [show inS ⟨#[c]⟩ "[]!-" = bad c from bad_in _ _ rfl]
  refine rd_ite (fun h3 => ?_) (fun h3 => ?_)
  · walk_at "rd"
    rw [h3] at eq
    exact q0 (.inl eq) _ k1
  walk_at "rd"
  rw [show inS s "[]!-" = bad h from bad_in _ _ es]
  refine rd_ite (fun h4 => ?_) (fun h4 => ?_)
  · walk_at "rd"
    rw [h3, h4] at eq
    exact q0 (.inl eq) _ k1
  walk_at "rd"
  rw [show s.cps.toList = [h] from es, show (⟨#[c]⟩ : Str).cps.toList = [c] from rfl, lt_sign]
  rw [h3, h4] at eq
  refine rd_ite (fun h5 => ?_) (fun h5 => ?_)
  · walk_at "rd"
    rw [h5] at eq
    exact q0 (.inl eq) _ k1
  rw [h5] at eq
  walk_at "rd"
  refine rd_tyL (SqL.of h1) ?_
  walk_at "rd"
  intro t ht
  have pt : p ≠ t := ne_of_none h1 ht
  have k2 : Same H1 (upd H1 t (.tup [.str ⟨#[c]⟩, .str s])) := (Same.refl H1).new ht
  walk_at "rd"
  refine rd_app (k2 _ _ h1) (szLt (by omega)) ?_
  refine ⟨_, by omega, j, acc ++ [(c, [h])], xs ++ [.ref t], _, _, rfl, by rw [List.length_append]; simp; omega, (k1.new ht).put hp, upd_same, ?_, ?_, rfl⟩
  · have kk : Same (nw (upd H p (.lst [])) H1) (nw (upd H p (.lst [])) (upd (upd H1 t (.tup [.str ⟨#[c]⟩, .str s])) p (.lst (xs ++ [.ref t])))) := (nw_mono k2).trans (nw_put upd_same)
    refine PySem.Paired.snoc (its_mono kk pr) ⟨t, s, rfl, es, nw_get ?_ (by rw [upd_ne pt.symm]; exact upd_same)⟩
    rw [upd_ne pt.symm]
    exact Sub.of k1 _ ht
  · rw [eq]
    cases itemsL ((tl z).drop j) with
    | none => rfl
    | some l => show some (acc ++ (c, [h]) :: l) = some (acc ++ [(c, [h])] ++ l); rw [List.append_assoc]; rfl
def Φ_set_at (K : PySem.W.Frag) (vp va : V) (H : Hp) (Q : VK) : Prop := ∃ (z : Str) (k : Nat) (s : List Nat), vp = .str z ∧ va = .int (k : Int) ∧ z.length ≤ 1000 ∧ (tl z).drop k = 91 :: s ∧
  (setL s = none → ∀ H', Same H H' → Q .non H') ∧
  ∀ tk t, setL s = some (tk, t) → ∀ (H' : Hp) (p : Addr) (v : V) (e : Nat), Same H H' → H' p = some (.tup [v, .int (e : Int)]) → TkAt (nw H H') v tk → k < e → e ≤ z.length → (tl z).drop e = t → Q (.ref p) H'
theorem cut93 (s : List Nat) : cutAt 93 (91 :: s) = (cutAt 93 s).map fun p => (91 :: p.1, p.2) := by
  show (if _ then _ else _) = _
  rw [if_neg (by decide)]
theorem ok_set_at (T : Txt K mg) {f : Addr} {fd : FuncData} (F : Fun K "set_at" "set_at" s_set_at f fd) : Keeps P w K mg base CX0 2 f fd ["pattern", "at"] (sp2 (Φ_set_at K)) := by
  have c_items_of := cal (P := P) (w := w) (base := base) T.d_items_of fun F => ok_items_of T F
  refine keeps0_of F sc_set_at (fun vs H Q E h => ?_) (fun cdv A outer s H vs Q E hr h => ?_)
  · obtain ⟨_, _, rfl, _⟩ := h
    rfl
  obtain ⟨v_pattern, v_at, rfl, h⟩ := h
  have hu := hr.hu
  refine ⟨_, (pss_cons (ps_set (i := 2) sc_set_at.nd rfl (by first | exact Or.inl rfl | exact Or.inr rfl) (pe_bmX (K := K) PySem.F.plainAttrs_str PySem.F.slot_str_find PySem.F.type_str_find mt_find3 (pv 0) (pa_cons pe_str (pa_cons (pv 1) pa_nil))))
      (pss_cons (ps_if (pt_cmpR oLt (pv 2) pe_int (nomark _)) (pss_one (ps_ret pe_non)) pss_nil)
      (pss_cons (ps_set (i := 3) sc_set_at.nd rfl (by first | exact Or.inl rfl | exact Or.inr rfl) (pe_cmpR (oEq (K := K) hr.u65) (pe_ix (ixX (K := K)) (pv 0) (pe_op (oAdd (K := K)) (pv 1) pe_int) (fun _ _ => rfl)) pe_str (nomark _)))
      (pss_cons (ps_set (i := 4) sc_set_at.nd rfl (by first | exact Or.inl rfl | exact Or.inr rfl) (pe_cal c_items_of (hr.mono (by decide)) (by rfl) pass0 (pa_cons (pe_slice (sX (K := K)) (pv 0) (po_some (pe_op (oAdd (K := K)) (pe_op (oAdd (K := K)) (pv 1) pe_int) (pe_callTy call_intX (by rfl) T.b_int (by decide +kernel) (pa_cons (pv 3) pa_nil)))) (po_some (pv 2))) pa_nil)))
      (pss_one (ps_ret (pe_ifExp (pt_cmpR oIs (pv 4) pe_non (nomark _)) pe_non (pe_tup (pa_cons (pe_tup (pa_cons (pe_gk (by rfl) T.c_SET) (pa_cons (pv 3) (pa_cons (pv 4) pa_nil)))) (pa_cons (pe_op (oAdd (K := K)) (pv 2) pe_int) pa_nil)))))))))), ?_⟩
  rw [show start ["pattern", "at", "end", "is_none_of", "items"] [v_pattern, v_at] = [some v_pattern, some v_at, none, none, none] from rfl]
  try dsimp only [cxOf, Cx.nox, Cx.wish]
  obtain ⟨z, k, s, rfl, rfl, hz, hk, q0, q1⟩ := h
  have lz := len_tl z
  obtain ⟨_, hk1, hk2⟩ := drop_ne hk
  have fnd := find_cut z 93 k
  rw [hk, cut93] at fnd
  cases ec : cutAt 93 s with
  | none =>
    rw [ec] at fnd
    have fnd : Txt.find3 z ⟨#[93]⟩ (k : Int) = -1 := fnd
    walk_at "rd"
    refine ⟨_, _, _, rfl, rfl, ?_⟩
    rw [show ("]" : Str) = ⟨#[93]⟩ from by decide +kernel, fnd]
    walk_at "rd"
    refine rd_yesI (by decide) ?_
    walk_at "rd"
    have e : setL s = none := by unfold setL; rw [ec]
    exact q0 e H (Same.refl H)
  | some bt =>
  obtain ⟨b, t⟩ := bt
  obtain ⟨e1, e2⟩ := cutAt_some ec
  rw [ec] at fnd
  have fnd : Txt.find3 z ⟨#[93]⟩ (k : Int) = ((k + (b.length + 1) : Nat) : Int) := fnd
  rw [show k + (b.length + 1) = k + 1 + b.length by omega] at fnd
  have le : k + 1 + b.length < z.length := by
    have := congrArg List.length hk
    rw [List.length_drop, lz, List.length_cons, e1, List.length_append, List.length_cons] at this
    omega
  obtain ⟨x, y, ex⟩ : ∃ x y, s = x :: y := by
    cases b with
    | nil => exact ⟨_, _, e1⟩
    | cons a b => exact ⟨_, _, e1⟩
  have hx : (tl z)[k + 1]? = some x := by
    have : ((tl z).drop (k + 1))[0]? = some x := by rw [hk2, ex]; rfl
    rwa [List.getElem?_drop, Nat.add_zero] at this
  have hneg : decide ((⟨#[x]⟩ : Str) = "!") = negOf s := by
    rw [dec_tl, show tl ("!" : Str) = [33] by decide +kernel, tl_sg, ex]
    rfl
  generalize hn : (if negOf s then 1 else 0 : Nat) = n
  have hn1 : n ≤ b.length := by
    cases hs : negOf s with
    | false => rw [hs] at hn; have : n = 0 := hn.symm; omega
    | true =>
      cases b with
      | nil =>
        rw [e1] at hs
        have : decide ([93] = [33]) = true := hs
        exact absurd this (by decide)
      | cons a b =>
        rw [hs] at hn
        have : n = 1 := hn.symm
        rw [List.length_cons]
        omega
  have key : tl (cutS z (some ((k + 1 + n : Nat) : Int)) (some ((k + 1 + b.length : Nat) : Int))) = b.drop n := by
    rw [tl_mid _ _ _ (by omega), ← List.drop_drop, hk2, e1, List.drop_append_of_le_length hn1, List.take_append_of_le_length (by rw [List.length_drop]; omega), List.take_of_length_le (by rw [List.length_drop]; omega)]
  have eS : setL s = match itemsL (b.drop n) with
    | some (i :: is) => some (.set (negOf s) (i :: is), t)
    | _ => none := by
    unfold setL
    rw [ec, ← hn]
  walk_at "rd"
  refine ⟨_, _, _, rfl, rfl, ?_⟩
  rw [show ("]" : Str) = ⟨#[93]⟩ from by decide +kernel, fnd]
  walk_at "rd"
  refine rd_noI (decide_eq_false (by omega)) ?_
  walk_at "rd"
  rw [show (k : Int) + 1 = ((k + 1 : Nat) : Int) by omega]
  refine rd_ixS (c := x) (szOk (by omega)) (atI_nat hx) ?_
  walk_at "rd"
  rw [hneg]
  walk_at "rd"
  rw [show (k : Int) + 1 + (if negOf s = true then 1 else 0) = ((k + 1 + n : Nat) : Int) by rw [← hn]; cases negOf s <;> simp]
  refine ⟨_, rfl, Nat.le_trans (cutS_length _ _ _) hz, ?_, ?_⟩
  · rw [key]
    intro h H1 k1
    walk_at "rd"
    rw [decide_eq_true rfl]
    walk_at "rd"
    refine q0 ?_ H1 k1
    rw [eS]
    rcases h with h | h <;> rw [h]
  · rw [key]
    intro i is h H1 l xs k1 h1 pr
    rw [h] at eS
    walk_at "rd"
    rw [decide_eq_false (fun e => nomatch e)]
    walk_at "rd"
    intro t1 ht1
    walk_at "rd"
    intro t2 ht2
    have k2 := (Same.refl H1).new (o := .tup [.str "set", .bl (negOf s), .ref l]) ht1
    have k3 := (Same.refl (upd H1 t1 (.tup [.str "set", .bl (negOf s), .ref l]))).new (o := .tup [.ref t1, .int ((k + 1 + b.length + 1 : Nat) : Int)]) ht2
    refine q1 _ t eS _ _ _ (k + 1 + b.length + 1) ((k1.trans k2).trans k3) upd_same ⟨t1, l, xs, rfl, nw_get (Sub.of k1 _ ht1) (k3 _ _ upd_same), nw_mono (k2.trans k3) _ _ h1, its_mono (nw_mono (k2.trans k3)) pr⟩ (by omega) (by omega) ?_
    rw [show k + 1 + b.length + 1 = k + 1 + (b.length + 1) by omega, ← List.drop_drop, hk2, e1, ← List.drop_drop, List.drop_left]
    rfl
def Φ_tokens_of (K : PySem.W.Frag) (v : V) (H : Hp) (Q : VK) : Prop := ∃ z : Str, v = .str z ∧ z.length ≤ 1000 ∧
  (toks (tl z) = none → ∀ H', Same H H' → Q .non H') ∧
  ∀ ts, toks (tl z) = some ts → ∀ (H' : Hp) (l : Addr) (xs : List V), Same H H' → nw H H' l = some (.lst xs) → Paired (TkAt (nw H H')) xs ts → Q (.ref l) H'
theorem ok_tokens_of (T : Txt K mg) {f : Addr} {fd : FuncData} (F : Fun K "tokens_of" "tokens_of" s_tokens_of f fd) : Keeps P w K mg base CX0 3 f fd ["pattern"] (sp1 (Φ_tokens_of K)) := by
  have c_set_at := cal (P := P) (w := w) (base := base) T.d_set_at fun F => ok_set_at T F
  refine keeps0_of F sc_tokens_of (fun vs H Q E h => ?_) (fun cdv A outer s H vs Q E hr h => ?_)
  · obtain ⟨_, rfl, _⟩ := h
    rfl
  obtain ⟨v_pattern, rfl, h⟩ := h
  have hu := hr.hu
  refine ⟨_, (pss_cons (ps_par (i := 1) (j := 2) rfl sc_tokens_of.nd rfl rfl (by decide) rfl rfl (pa_cons (pe_lst pa_nil) (pa_cons pe_int pa_nil)) (by rfl))
      (pss_cons (ps_while PassesOwn.never (pt_cmpR oLt (pv 2) (pe_callB (call_lenX (K := K)) (by rfl) T.b_len (by decide +kernel) (pa_cons (pv 0) pa_nil)) (nomark _)) (pss_cons (ps_set (i := 3) sc_tokens_of.nd rfl (by first | exact Or.inl rfl | exact Or.inr rfl) (pe_ix (ixX (K := K)) (pv 0) (pv 2) (fun _ _ => rfl)))
      (pss_one (ps_if (pt_cmpR (oEq (K := K) hr.u65) (pv 3) pe_str (nomark _)) (pss_cons (ps_set (i := 4) sc_tokens_of.nd rfl (by first | exact Or.inl rfl | exact Or.inr rfl) (pe_cal c_set_at (hr.mono (by decide)) (by rfl) pass0 (pa_cons (pv 0) (pa_cons (pv 2) pa_nil))))
      (pss_cons (ps_if (pt_cmpR oIs (pv 4) pe_non (nomark _)) (pss_one (ps_ret pe_non)) pss_nil)
      (pss_cons (ps_expr (pe_bmX (K := K) PySem.F.plainAttrs_list PySem.F.slot_list_append PySem.F.type_list_append mt_append (pv 1) (pa_cons (pe_ix (ixX (K := K)) (pv 4) pe_int (fun _ _ => rfl)) pa_nil)))
      (pss_one (ps_set (i := 2) sc_tokens_of.nd rfl (by first | exact Or.inl rfl | exact Or.inr rfl) (pe_ix (ixX (K := K)) (pv 4) pe_int (fun _ _ => rfl))))))) (pss_cons (ps_expr (pe_bmX (K := K) PySem.F.plainAttrs_list PySem.F.slot_list_append PySem.F.type_list_append mt_append (pv 1) (pa_cons (pe_ifExp (pt_cmpR (oEq (K := K) hr.u65) (pv 3) pe_str (nomark _)) (pe_tup (pa_cons (pe_gk (by rfl) T.c_ANY) pa_nil)) (pe_ifExp (pt_cmpR (oEq (K := K) hr.u65) (pv 3) pe_str (nomark _)) (pe_tup (pa_cons (pe_gk (by rfl) T.c_ONE) pa_nil)) (pe_tup (pa_cons (pe_gk (by rfl) T.c_SIGN) (pa_cons (pv 3) pa_nil))))) pa_nil)))
      (pss_one (ps_aug (i := 2) sc_tokens_of.nd rfl (by first | exact Or.inl rfl | exact Or.inr rfl) pe_int ip_add)))))))
      (pss_one (ps_ret (pv 1))))), ?_⟩
  rw [show start ["pattern", "found", "at", "sign", "told"] [v_pattern] = [some v_pattern, none, none, none, none] from rfl]
  try dsimp only [cxOf, Cx.nox, Cx.wish]
  obtain ⟨z, rfl, hz, q0, q1⟩ := h
  have lz := len_tl z
  walk_at "rd"
  intro p hp
  walk_at "rd"
  refine rd_while (fun m σ H' => ∃ (i : Nat) (acc : List Tk) (xs : List V) (a b : Option V), m = z.length - i ∧ xs.length ≤ i ∧ Same H H' ∧ H' p = some (.lst xs) ∧ Paired (TkAt (nw (upd H p (.lst [])) H')) xs acc ∧ toks (tl z) = (toks ((tl z).drop i)).map (acc ++ ·) ∧ σ = [some (.str z), some (.ref p), some (.int (i : Int)), a, b])
    z.length ⟨0, [], [], none, none, rfl, Nat.le_refl _, (Same.refl H).new hp, upd_same, .nil, by rw [List.drop_zero]; cases toks (tl z) <;> rfl, rfl⟩ ?_
  rintro m σ H1 ⟨i, acc, xs, a, b, rfl, hx, k1, h1, pr, eq, rfl⟩
  walk_at "rd"
  refine rd_ite (fun hc => ?_) (fun hc => ?_)
  rotate_left
  · have hi : z.length ≤ i := by have := of_decide_eq_false hc; omega
    rw [List.drop_of_length_le (by rw [lz]; exact hi), toks_nil, Option.map_some, List.append_nil] at eq
    walk_at "rd"
    exact q1 _ eq _ _ _ k1 (nw_get hp h1) (tks_mono (nw_base (Sub.refl H).upd) pr)
  have hi : i < z.length := by have := of_decide_eq_true hc; omega
  refine rd_turn ?_
  obtain ⟨c, r, hr'⟩ : ∃ c r, (tl z).drop i = c :: r := by
    cases e : (tl z).drop i with
    | nil => have := congrArg List.length e; rw [List.length_drop, lz] at this; simp at this; omega
    | cons c r => exact ⟨c, r, rfl⟩
  obtain ⟨hg, _, hd⟩ := drop_ne hr'
  have app : ∀ (H2 : Hp) (v : V) (k : Tk) (j : Nat) (a b : Option V), Same H1 H2 → TkAt (nw (upd H p (.lst [])) H2) v k → i < j → toks (tl z) = (toks ((tl z).drop j)).map (acc ++ [k] ++ ·) →
      (∃ m', m' < z.length - i ∧ ∃ (i : Nat) (acc : List Tk) (xs' : List V) (a' b' : Option V), m' = z.length - i ∧ xs'.length ≤ i ∧ Same H (upd H2 p (.lst (xs ++ [v]))) ∧ upd H2 p (.lst (xs ++ [v])) p = some (.lst xs') ∧ Paired (TkAt (nw (upd H p (.lst [])) (upd H2 p (.lst (xs ++ [v]))))) xs' acc ∧ toks (tl z) = (toks ((tl z).drop i)).map (acc ++ ·) ∧ [some (.str z), some (.ref p), some (.int (j : Int)), a, b] = [some (.str z), some (.ref p), some (.int (i : Int)), a', b']) := by
    intro H2 v k j a b k2 tk hj e
    refine ⟨_, by omega, j, acc ++ [k], xs ++ [v], a, b, rfl, by rw [List.length_append]; simp; omega, (k1.trans k2).put hp, upd_same, ?_, e, rfl⟩
    exact PySem.Paired.snoc (tks_mono ((nw_mono k2).trans (nw_put upd_same)) pr) (tk.mono (nw_put upd_same))
  have tn : ∀ t, H1 t = none → upd H p (.lst []) t = none := by
    intro a ha
    by_cases e : a = p
    · rw [e, h1] at ha; cases ha
    · rw [upd_ne e]; exact Sub.of k1 _ ha
  have stp (k : Tk) (t : List Nat) (j : Nat) (e : tokStep c r = some (k, t)) (hj : (tl z).drop j = t) : toks (tl z) = (toks ((tl z).drop j)).map (acc ++ [k] ++ ·) := by
    rw [eq, hr', toks_step e, hj]
    cases toks t with
    | none => rfl
    | some l => show some (acc ++ k :: l) = some (acc ++ [k] ++ l); rw [List.append_assoc]; rfl
  walk_at "rd"
  refine rd_ixS (c := c) (szOk (by omega)) (atI_nat hg) ?_
  walk_at "rd"
  rw [dec_tl, tl_sg, show tl ("[" : Str) = [91] by decide +kernel]
  refine rd_ite (fun h2 => ?_) (fun h2 => ?_)
  · have hc : c = 91 := by have := of_decide_eq_true h2; exact (List.cons.inj this).1
    subst hc
    walk_at "rd"
    refine ⟨z, i, r, rfl, rfl, hz, hr', ?_, ?_⟩
    · intro e H2 k2
      walk_at "rd"
      rw [decide_eq_true rfl]
      walk_at "rd"
      refine q0 ?_ H2 (k1.trans k2)
      rw [eq, hr', toks_stop (show tokStep 91 r = none by unfold tokStep; rw [if_pos rfl]; exact e)]
      rfl
    · intro tk t e H2 l v j k2 h2 hv hj1 hj2 hj3
      walk_at "rd"
      rw [decide_eq_false (fun e => nomatch e)]
      walk_at "rd"
      refine rd_tyL (SqL.of (k2 _ _ h1)) ?_
      walk_at "rd"
      refine rd_ixT (SqT.of h2) rfl ?_
      walk_at "rd"
      refine rd_app (k2 _ _ h1) (szLt (by omega)) ?_
      have lp : l ≠ p := fun e => by rw [e, k2 _ _ h1] at h2; cases h2
      walk_at "rd"
      refine rd_ixT (SqT.of (by rw [upd_ne lp]; exact h2)) rfl ?_
      walk_at "rd"
      exact app H2 v tk j _ _ k2 (hv.mono (nw_base tn)) hj1 (stp _ _ _ (by unfold tokStep; rw [if_pos rfl]; exact e) hj3)
  · have hc : c ≠ 91 := fun e => by rw [e] at h2; exact absurd h2 (by decide)
    have ts : tokStep c r = some (tkOf c, r) := by unfold tokStep; rw [if_neg hc]
    walk_at "rd"
    refine rd_tyL (SqL.of h1) ?_
    walk_at "rd"
    rw [dec_tl, tl_sg, show tl ("*" : Str) = [42] by decide +kernel]
    refine rd_ite (fun h3 => ?_) (fun h3 => ?_)
    · have e3 : c = 42 := by have := of_decide_eq_true h3; exact (List.cons.inj this).1
      subst e3
      walk_at "rd"
      intro t ht
      have k2 := (Same.refl H1).new (o := .tup [.str "any"]) ht
      walk_at "rd"
      refine rd_app (k2 _ _ h1) (szLt (by omega)) ?_
      walk_at "rd"
      exact app _ _ .any (i + 1) _ _ k2 ⟨t, rfl, nw_get (tn t ht) upd_same⟩ (by omega) (stp _ _ _ ts hd)
    walk_at "rd"
    rw [dec_tl, tl_sg, show tl ("?" : Str) = [63] by decide +kernel]
    have n3 : c ≠ 42 := fun e => by rw [e] at h3; exact absurd h3 (by decide)
    refine rd_ite (fun h4 => ?_) (fun h4 => ?_)
    · have e3 : c = 63 := by have := of_decide_eq_true h4; exact (List.cons.inj this).1
      subst e3
      walk_at "rd"
      intro t ht
      have k2 := (Same.refl H1).new (o := .tup [.str "one"]) ht
      walk_at "rd"
      refine rd_app (k2 _ _ h1) (szLt (by omega)) ?_
      walk_at "rd"
      exact app _ _ .one (i + 1) _ _ k2 ⟨t, rfl, nw_get (tn t ht) upd_same⟩ (by omega) (stp _ _ _ ts hd)
    · have n4 : c ≠ 63 := fun e => by rw [e] at h4; exact absurd h4 (by decide)
      have et : tkOf c = .sign c := by unfold tkOf; rw [if_neg n3, if_neg n4]
      walk_at "rd"
      intro t ht
      have k2 := (Same.refl H1).new (o := .tup [.str "sign", .str ⟨#[c]⟩]) ht
      walk_at "rd"
      refine rd_app (k2 _ _ h1) (szLt (by omega)) ?_
      walk_at "rd"
      exact app _ _ (.sign c) (i + 1) _ _ k2 ⟨t, rfl, nw_get (tn t ht) upd_same⟩ (by omega) (stp _ _ _ (by rw [ts, et]) hd)
def patB : V → Bool
  | .str z => (decide (1 ≤ z.length) && decide (z.length ≤ 40)) && (!decide (47 ∈ tl z) && (toks (tl z)).isSome)
  | _ => false
theorem patB_str (z : Str) : patB (.str z) = ((decide (1 ≤ z.length) && decide (z.length ≤ 40)) && (!decide (47 ∈ tl z) && (toks (tl z)).isSome)) := rfl
/-- a text, or what is none -/
def NoStr (K : PySem.W.Frag) (H : Hp) (v : V) : Prop := patB v = false ∧ ∃ t, TyX K H v t ∧ PySem.W.kitOne K t (.type "str") = some false
def AnyP (K : PySem.W.Frag) (H : Hp) (v : V) : Prop := (∃ z : Str, v = .str z ∧ z.length ≤ 1000) ∨ NoStr K H v
theorem AnyP.mono {K : PySem.W.Frag} {H H' : Hp} {v : V} (e : Same H H') (h : AnyP K H v) : AnyP K H' v := by
  rcases h with h | ⟨h1, u, h2, h3⟩
  · exact .inl h
  · exact .inr ⟨h1, u, tyx_same e h2, h3⟩
def Φ_is_a_pattern (K : PySem.W.Frag) (v : V) (H : Hp) (Q : VK) : Prop := AnyP K H v ∧ ∀ H', Same H H' → Q (.bl (patB v)) H'
theorem not_le_dec {n m : Nat} (h : (!decide ((n : Int) ≤ m)) = false) : n ≤ m := by
  cases e : decide ((n : Int) ≤ m) with
  | true => have := of_decide_eq_true e; omega
  | false => rw [e] at h; cases h
theorem not_le_dec' {n m : Nat} (h : (!decide ((n : Int) ≤ m)) = true) : ¬ n ≤ m := by
  cases e : decide ((n : Int) ≤ m) with
  | true => rw [e] at h; cases h
  | false => have := of_decide_eq_false e; omega
theorem in_sign (c : Nat) (s z : Str) (h : tl s = [c]) : inS s z = decide (c ∈ tl z) := by
  have : s = ⟨#[c]⟩ := str_ext h
  rw [this, inS_sign]
theorem ok_is_a_pattern (T : Txt K mg) {f : Addr} {fd : FuncData} (F : Fun K "is_a_pattern" "is_a_pattern" s_is_a_pattern f fd) : Keeps P w K mg base CX0 4 f fd ["value"] (sp1 (Φ_is_a_pattern K)) := by
  have c_tokens_of := cal (P := P) (w := w) (base := base) T.d_tokens_of fun F => ok_tokens_of T F
  refine keeps0_of F sc_is_a_pattern (fun vs H Q E h => ?_) (fun cdv A outer s H vs Q E hr h => ?_)
  · obtain ⟨_, rfl, _⟩ := h
    rfl
  obtain ⟨v_value, rfl, h⟩ := h
  have hu := hr.hu
  refine ⟨_, (pss_cons (ps_if (PW.pt (pw_or (pt_not (pt_val (pe_callB (isiX (K := K)) (by rfl) T.b_isinstance (by decide +kernel) (pa_cons (pv 0) (pa_cons (pe_bltn (v := .ty "str") (by rfl) T.b_str (by decide +kernel) rfl) pa_nil))))) (pw_or (pt_not (pt_chain oLe oLe pe_int (pe_callB (call_lenX (K := K)) (by rfl) T.b_len (by decide +kernel) (pa_cons (pv 0) pa_nil)) (pe_gk (by rfl) T.c_MOST_PATTERN))) (pw_or1 (pt_cmpR (oIn (K := K)) pe_str (pv 0) (by rfl)))))) (pss_one (ps_ret pe_bl)) pss_nil)
      (pss_one (ps_ret (pe_cmpR oIsNot (pe_cal c_tokens_of (hr.mono (by decide)) (by rfl) pass0 (pa_cons (pv 0) pa_nil)) pe_non (nomark _))))), ?_⟩
  rw [show start ["value"] [v_value] = [some v_value] from rfl]
  try dsimp only [cxOf, Cx.nox, Cx.wish]
  obtain ⟨⟨z, rfl, hz⟩ | ⟨hn, t, ty, ht⟩, q⟩ := h
  rotate_left
  · walk_at "rd"
    refine rd_isi ty ht ?_
    walk_at "rd"
    exact hn ▸ q H (Same.refl H)
  walk_at "rd"
  refine rd_ite (fun h1 => ?_) (fun h1 => ?_)
  rotate_left
  · walk_at "rd"
    have e : patB (.str z) = false := by
      have : ¬ (1 ≤ z.length) := by have := of_decide_eq_false h1; omega
      simp [patB, this]
    exact e ▸ q H (Same.refl H)
  have g1 : 1 ≤ z.length := by have := of_decide_eq_true h1; omega
  walk_at "rd"
  refine rd_ite (fun h2 => ?_) (fun h2 => ?_)
  · walk_at "rd"
    have e : patB (.str z) = false := by
      have := not_le_dec' (m := 40) h2
      simp [patB, this]
    exact e ▸ q H (Same.refl H)
  have g2 := not_le_dec (m := 40) h2
  walk_at "rd"
  rw [in_sign 47 "/" z (by decide +kernel)]
  refine rd_ite (fun h3 => ?_) (fun h3 => ?_)
  · walk_at "rd"
    have e : patB (.str z) = false := by rw [patB_str, h3, Bool.not_true, Bool.false_and, Bool.and_false]
    exact e ▸ q H (Same.refl H)
  have eb : patB (.str z) = (toks (tl z)).isSome := by rw [patB_str, h3, decide_eq_true g1, decide_eq_true g2]; rfl
  rw [eb] at q
  walk_at "rd"
  refine ⟨z, rfl, hz, ?_, ?_⟩
  · intro e H1 k1
    rw [e] at q
    walk_at "rd"
    exact q H1 k1
  · intro ts e H1 l xs k1 _ _
    rw [e] at q
    walk_at "rd"
    exact q H1 k1
def Φ_is_pattern (K : PySem.W.Frag) (v : V) (H : Hp) (Q : VK) : Prop := AnyP K H v ∧ ∀ H', Same H H' → Q (.bl (patB v)) H'

theorem ok_is_pattern (T : Txt K mg) {f : Addr} {fd : FuncData} (F : Fun K "is_pattern" "is_pattern" s_is_pattern f fd) : Keeps P w K mg base CX0 5 f fd ["value"] (sp1 (Φ_is_pattern K)) := by
  have c_is_a_pattern := cal (P := P) (w := w) (base := base) T.d_is_a_pattern fun F => ok_is_a_pattern T F
  refine keeps0_of F sc_is_pattern (fun vs H Q E h => ?_) (fun cdv A outer s H vs Q E hr h => ?_)
  · obtain ⟨_, rfl, _⟩ := h
    rfl
  obtain ⟨v_value, rfl, h⟩ := h
  have hu := hr.hu
  refine ⟨_, (pss_one (ps_ret (pe_cal c_is_a_pattern (hr.mono (by decide)) (by rfl) pass0 (pa_cons (pv 0) pa_nil)))), ?_⟩
  rw [show start ["value"] [v_value] = [some v_value] from rfl]
  try dsimp only [cxOf, Cx.nox, Cx.wish]
  walk_at "rd"
  exact h
abbrev Φ_law_pattern (K : PySem.W.Frag) (vd vm : V) (H : Hp) (Q : VK) := vm = .int 7 ∧ TxtOf 100 20 vd H Q
theorem ok_law_pattern (T : Txt K mg) {f : Addr} {fd : FuncData} (F : Fun K "_law_pattern" "_law_pattern" s_law_pattern f fd) : Keeps P w K mg base CX0 2 f fd ["deck", "most"] (sp2 (Φ_law_pattern K)) := by
  have c_law_draw := cal (P := P) (w := w) (base := base) T.d_law_draw fun F => ok_law_draw T F
  refine keeps0_of F sc_law_pattern (fun vs H Q E h => ?_) (fun cdv A outer s H vs Q E hr h => ?_)
  · obtain ⟨_, _, rfl, _⟩ := h
    rfl
  obtain ⟨v_deck, v_most, rfl, h⟩ := h
  have hu := hr.hu
  refine ⟨_, (pss_cons (ps_set (i := 2) sc_law_pattern.nd rfl (by first | exact Or.inl rfl | exact Or.inr rfl) pe_str)
      (pss_cons (ps_for PassesOwn.never rfl (pi_range1 (by rfl) T.b_range (pa_cons (pe_op (oAdd (K := K)) pe_int (pe_cal c_law_draw (hr.mono (by decide)) (by rfl) pass0 (pa_cons (pv 0) (pa_cons (pv 1) pa_nil)))) pa_nil)) (pg_name (i := 3) sc_law_pattern.nd rfl (by first | exact Or.inl rfl | exact Or.inr rfl)) (pss_one (ps_set (i := 2) sc_law_pattern.nd rfl (by first | exact Or.inl rfl | exact Or.inr rfl) (pe_op (oAdd (K := K)) (pv 2) (pe_ix (ixX (K := K)) (pe_lst (pa_cons pe_str (pa_cons pe_str (pa_cons pe_str (pa_cons pe_str (pa_cons pe_str (pa_cons pe_str (pa_cons pe_str (pa_cons pe_str (pa_cons pe_str (pa_cons pe_str (pa_cons pe_str (pa_cons pe_str (pa_cons pe_str (pa_cons pe_str (pa_cons pe_str (pa_cons pe_str pa_nil))))))))))))))))) (pe_cal c_law_draw (hr.mono (by decide)) (by rfl) pass0 (pa_cons (pv 0) (pa_cons pe_int pa_nil))) (fun _ _ => rfl))))))
      (pss_one (ps_ret (pv 2))))), ?_⟩
  rw [show start ["deck", "most", "found", "turn"] [v_deck, v_most] = [some v_deck, some v_most, none, none] from rfl]
  try dsimp only [cxOf, Cx.nox, Cx.wish]
  obtain ⟨rfl, d, m, rfl, hd, hm, q⟩ := h
  walk_at "rd"
  refine use_draw hd (by decide) (by decide) (by omega) fun n H1 n0 n1 d1 k1 => ?_
  walk_at "rd"
  refine rd_itR (by omega) (by omega) (fun i σ H' => Kp d H H' ∧ Dk d (m + 1 + i) H' ∧ ∃ (y : Str) (v : Option V), y.length ≤ 10 * i ∧ σ = [some (.ref d), some (.int 7), some (.str y), v])
    ⟨k1, d1, _, none, by decide +kernel, rfl⟩ ?_ ?_
  · rintro i σ H2 hi ⟨k2, d2, y, v, hy, rfl⟩
    walk_at "rd"
    intro l hl
    walk_at "rd"
    refine use_draw (d2.new hl) (by decide) (by decide) (by omega) fun a H3 a0 a1 d3 k3 => ?_
    refine pickS 10 (SqL.of (k3.at (d2.ne hl))) a0 a1 (by decide +kernel) fun s hs => ?_
    walk_at "rd"
    exact ⟨(k2.new hl).trans k3, d3, _, _, by rw [len_app]; omega, rfl⟩
  · rintro σ H2 ⟨k2, d2, y, v, hy, rfl⟩
    walk_at "rd"
    exact q y H2 (by omega) (d2.mono (by omega)) k2
def Φ_law_items_right (K : PySem.W.Frag) (v : V) (H : Hp) (Q : VK) : Prop := ∃ z : Str, v = .str z ∧ z.length ≤ 1000 ∧ ∀ H', Same H H' → Q (.bl (itemsL (tl z)).isSome) H'
theorem ok_law_items_right (T : Txt K mg) {f : Addr} {fd : FuncData} (F : Fun K "_law_items_right" "_law_items_right" s_law_items_right f fd) : Keeps P w K mg base CX0 1 f fd ["body"] (sp1 (Φ_law_items_right K)) := by
  refine keeps0_of F sc_law_items_right (fun vs H Q E h => ?_) (fun cdv A outer s H vs Q E hr h => ?_)
  · obtain ⟨_, rfl, _⟩ := h
    rfl
  obtain ⟨v_body, rfl, h⟩ := h
  have hu := hr.hu
  refine ⟨_, (pss_cons (ps_while PassesOwn.never (pt_cmpR (oNe (K := K) hr.u65) (pv 0) pe_str (nomark _)) (pss_cons (ps_par (i := 1) (j := 2) rfl sc_law_items_right.nd rfl rfl (by decide) rfl rfl (pa_cons (pe_ix (ixX (K := K)) (pv 0) pe_int (fun _ _ => rfl)) (pa_cons (pe_ix (ixX (K := K)) (pv 0) pe_int (fun _ _ => rfl)) pa_nil)) (by rfl))
      (pss_meet (ps_if (pt_cmpR (oEq (K := K) hr.u65) (pe_slice (sX (K := K)) (pv 0) (po_some pe_int) (po_some pe_int)) pe_str (nomark _)) (pss_cons (ps_set (i := 2) sc_law_items_right.nd rfl (by first | exact Or.inl rfl | exact Or.inr rfl) (pe_slice (sX (K := K)) (pv 0) (po_some pe_int) (po_some pe_int)))
      (pss_one (ps_set (i := 0) sc_law_items_right.nd rfl (by first | exact Or.inl rfl | exact Or.inr rfl) (pe_slice (sX (K := K)) (pv 0) (po_some pe_int) po_none)))) (pss_one (ps_set (i := 0) sc_law_items_right.nd rfl (by first | exact Or.inl rfl | exact Or.inr rfl) (pe_slice (sX (K := K)) (pv 0) (po_some pe_int) po_none))))
      (pss_one (ps_if (PW.pt (pw_or (pt_cmpR (oEq (K := K) hr.u65) (pv 2) pe_str (nomark _)) (pw_or (pt_cmpR (oIn (K := K)) (pv 1) pe_str (by rfl)) (pw_or (pt_cmpR (oIn (K := K)) (pv 2) pe_str (by rfl)) (pw_or1 (pt_cmpR oLt (pv 2) (pv 1) (nomark _))))))) (pss_one (ps_ret pe_bl)) pss_nil)))))
      (pss_one (ps_ret pe_bl))), ?_⟩
  rw [show start ["body", "low", "high"] [v_body] = [some v_body, none, none] from rfl]
  try dsimp only [cxOf, Cx.nox, Cx.wish]
  obtain ⟨z, rfl, hz, q⟩ := h
  walk_at "rd"
  refine rd_while (fun m σ H' => H = H' ∧ ∃ (y : Str) (a b : Option V), m = y.length ∧ y.length ≤ 1000 ∧ (itemsL (tl z)).isSome = (itemsL (tl y)).isSome ∧ σ = [some (.str y), a, b])
    z.length ⟨rfl, z, none, none, rfl, hz, rfl, rfl⟩ ?_
  rintro m σ _ ⟨rfl, y, a, b, rfl, hy, eq, rfl⟩
  have ly := len_tl y
  walk_at "rd"
  rw [dec_tl, tl_nil]
  refine rd_ite (fun h1 => ?_) (fun h1 => ?_)
  rotate_left
  · have e : tl y = [] := by simpa using h1
    walk_at "rd"
    have e2 : (itemsL (tl z)).isSome = true := by rw [eq, e]; rfl
    exact e2 ▸ q H (Same.refl H)
  obtain e | ⟨c, r, e⟩ := tl_cases y
  · rw [e] at h1; exact absurd h1 (by decide)
  refine rd_turn ?_
  rw [e, itemsL_cons] at eq
  rw [e, List.length_cons] at ly
  walk_at "rd"
  refine rd_ixS (c := c) (szOk (by omega)) (atI_nat (j := 0) (by show (tl y)[0]? = _; rw [e]; rfl)) ?_
  walk_at "rd"
  refine rd_ixS (c := c) (szOk (by omega)) (atI_nat (j := 0) (by show (tl y)[0]? = _; rw [e]; rfl)) ?_
  walk_at "rd"
  refine rd_meet (fun σ' H' => H = H' ∧ ∃ (x s : Str), x.length < y.length ∧ tl s = (hiOf c r).1 ∧ tl x = (hiOf c r).2 ∧ σ' = [some (.str x), some (.str ⟨#[c]⟩), some (.str s)]) ?_ ?_
  · walk_at "rd"
    have e1 : tl (cutS y (some 1) (some 2)) = r.take 1 := by
      have := tl_mid y 1 2 (by omega)
      rw [e] at this
      exact this
    rw [dec_tl, e1, show tl ("-" : Str) = [45] by decide +kernel]
    refine rd_ite (fun h2 => ?_) (fun h2 => ?_)
    · have h2 := of_decide_eq_true h2
      have eh : hiOf c r = ((r.drop 1).take 1, r.drop 2) := by unfold hiOf; rw [if_pos h2]
      walk_at "rd"
      have e2 : tl (cutS y (some 2) (some 3)) = (r.drop 1).take 1 := by
        have := tl_mid y 2 3 (by omega)
        rw [e] at this
        exact this
      have e3 : tl (cutS y (some 3) none) = r.drop 2 := by
        have := tl_drop y 3
        rw [e] at this
        exact this
      refine ⟨rfl, _, _, ?_, by rw [eh]; exact e2, by rw [eh]; exact e3, rfl⟩
      rw [← len_tl, e3, List.length_drop]
      omega
    · have h2 := of_decide_eq_false h2
      have eh : hiOf c r = ([c], r) := by unfold hiOf; rw [if_neg h2]
      have e3 : tl (cutS y (some 1) none) = r := by
        have := tl_drop y 1
        rw [e] at this
        exact this
      walk_at "rd"
      refine ⟨rfl, _, _, ?_, by rw [eh], by rw [eh]; exact e3, rfl⟩
      rw [← len_tl, e3]
      omega
  rintro _ _ ⟨rfl, x, s, hx, hs, hx2, rfl⟩
  have hl1 := hiOf_one c r
  rw [← hs, ← hx2] at eq
  rw [← hs] at hl1
  clear hs hx2
  walk_at "rd"
  rw [dec_tl, tl_nil]
  cases es : tl s with
  | nil =>
    rw [es] at eq
    walk_at "rd"
    have eq : (itemsL (tl z)).isSome = false := eq
    exact eq ▸ q H (Same.refl H)
  | cons h t =>
  have ht : t = [] := by
    cases t with
    | nil => rfl
    | cons _ _ => rw [es] at hl1; exact absurd hl1 (by simp)
  subst ht
  have hok : itemOk c [h] = !(bad c || bad h || decide (h < c)) := rfl
  rw [es, hok] at eq
  rw [decide_eq_false (List.cons_ne_nil h [])]
  walk_at "rd"
  rw [show inS ⟨#[c]⟩ "[]!-" = bad c from bad_in _ _ rfl]
  refine rd_ite (fun h3 => ?_) (fun h3 => ?_)
  · walk_at "rd"
    rw [h3] at eq
    have eq : (itemsL (tl z)).isSome = false := eq
    exact eq ▸ q H (Same.refl H)
  walk_at "rd"
  rw [show inS s "[]!-" = bad h from bad_in _ _ es]
  refine rd_ite (fun h4 => ?_) (fun h4 => ?_)
  · walk_at "rd"
    rw [h3, h4] at eq
    have eq : (itemsL (tl z)).isSome = false := eq
    exact eq ▸ q H (Same.refl H)
  walk_at "rd"
  rw [show s.cps.toList = [h] from es, show (⟨#[c]⟩ : Str).cps.toList = [c] from rfl, lt_sign]
  rw [h3, h4] at eq
  refine rd_ite (fun h5 => ?_) (fun h5 => ?_)
  · walk_at "rd"
    rw [h5] at eq
    have eq : (itemsL (tl z)).isSome = false := eq
    exact eq ▸ q H (Same.refl H)
  rw [h5] at eq
  walk_at "rd"
  have eq : (itemsL (tl z)).isSome = ((itemsL (tl x)).map _).isSome := eq
  rw [isSome_map] at eq
  exact ⟨_, hx, rfl, x, _, _, rfl, by omega, eq, rfl⟩
def Φ_law_pattern_right (K : PySem.W.Frag) (v : V) (H : Hp) (Q : VK) : Prop := AnyP K H v ∧ ∀ H', Same H H' → Q (.bl (patB v)) H'
theorem ok_law_pattern_right (T : Txt K mg) {f : Addr} {fd : FuncData} (F : Fun K "_law_pattern_right" "_law_pattern_right" s_law_pattern_right f fd) : Keeps P w K mg base CX0 2 f fd ["value"] (sp1 (Φ_law_pattern_right K)) := by
  have c_law_items_right := cal (P := P) (w := w) (base := base) T.d_law_items_right fun F => ok_law_items_right T F
  refine keeps0_of F sc_law_pattern_right (fun vs H Q E h => ?_) (fun cdv A outer s H vs Q E hr h => ?_)
  · obtain ⟨_, rfl, _⟩ := h
    rfl
  obtain ⟨v_value, rfl, h⟩ := h
  have hu := hr.hu
  refine ⟨_, (pss_cons (ps_if (PW.pt (pw_or (pt_not (pt_val (pe_callB (isiX (K := K)) (by rfl) T.b_isinstance (by decide +kernel) (pa_cons (pv 0) (pa_cons (pe_bltn (v := .ty "str") (by rfl) T.b_str (by decide +kernel) rfl) pa_nil))))) (pw_or (pt_not (pt_chain oLe oLe pe_int (pe_callB (call_lenX (K := K)) (by rfl) T.b_len (by decide +kernel) (pa_cons (pv 0) pa_nil)) pe_int)) (pw_or1 (pt_cmpR (oIn (K := K)) pe_str (pv 0) (by rfl)))))) (pss_one (ps_ret pe_bl)) pss_nil)
      (pss_cons (ps_set (i := 1) sc_law_pattern_right.nd rfl (by first | exact Or.inl rfl | exact Or.inr rfl) (pv 0))
      (pss_cons (ps_while PassesOwn.never (pt_cmpR (oNe (K := K) hr.u65) (pv 1) pe_str (nomark _)) (pss_one (ps_if (pt_cmpR (oNe (K := K) hr.u65) (pe_ix (ixX (K := K)) (pv 1) pe_int (fun _ _ => rfl)) pe_str (nomark _)) (pss_one (ps_set (i := 1) sc_law_pattern_right.nd rfl (by first | exact Or.inl rfl | exact Or.inr rfl) (pe_slice (sX (K := K)) (pv 1) (po_some pe_int) po_none))) (pss_cons (ps_set (i := 2) sc_law_pattern_right.nd rfl (by first | exact Or.inl rfl | exact Or.inr rfl) (pe_m1 PySem.F.slot_str_find PySem.F.type_str_find mt_find (pv 1) pe_str))
      (pss_cons (ps_set (i := 3) sc_law_pattern_right.nd rfl (by first | exact Or.inl rfl | exact Or.inr rfl) (pe_slice (sX (K := K)) (pv 1) (po_some pe_int) (po_some (pe_callB (call_maxX rfl) (by rfl) T.b_max (by decide +kernel) (pa_cons pe_int (pa_cons (pv 2) pa_nil))))))
      (pss_meet (ps_if (pt_cmpR (oEq (K := K) hr.u65) (pe_slice (sX (K := K)) (pv 3) po_none (po_some pe_int)) pe_str (nomark _)) (pss_one (ps_set (i := 3) sc_law_pattern_right.nd rfl (by first | exact Or.inl rfl | exact Or.inr rfl) (pe_slice (sX (K := K)) (pv 3) (po_some pe_int) po_none))) pss_nil)
      (pss_cons (ps_if (PW.pt (pw_or (pt_cmpR oLt (pv 2) pe_int (nomark _)) (pw_or (pt_cmpR (oEq (K := K) hr.u65) (pv 3) pe_str (nomark _)) (pw_or1 (pt_not (pt_val (pe_cal c_law_items_right (hr.mono (by decide)) (by rfl) pass0 (pa_cons (pv 3) pa_nil)))))))) (pss_one (ps_ret pe_bl)) pss_nil)
      (pss_one (ps_set (i := 1) sc_law_pattern_right.nd rfl (by first | exact Or.inl rfl | exact Or.inr rfl) (pe_slice (sX (K := K)) (pv 1) (po_some (pe_op (oAdd (K := K)) (pv 2) pe_int)) po_none))))))))))
      (pss_one (ps_ret pe_bl))))), ?_⟩
  rw [show start ["value", "left", "end", "body"] [v_value] = [some v_value, none, none, none] from rfl]
  try dsimp only [cxOf, Cx.nox, Cx.wish]
  obtain ⟨⟨z, rfl, hz⟩ | ⟨hn, t, ty, ht⟩, q⟩ := h
  rotate_left
  · walk_at "rd"
    refine rd_isi ty ht ?_
    walk_at "rd"
    exact hn ▸ q H (Same.refl H)
  walk_at "rd"
  refine rd_ite (fun h1 => ?_) (fun h1 => ?_)
  rotate_left
  · walk_at "rd"
    have e : patB (.str z) = false := by
      have : ¬ (1 ≤ z.length) := by have := of_decide_eq_false h1; omega
      simp [patB, this]
    exact e ▸ q H (Same.refl H)
  have g1 : 1 ≤ z.length := by have := of_decide_eq_true h1; omega
  walk_at "rd"
  refine rd_ite (fun h2 => ?_) (fun h2 => ?_)
  · walk_at "rd"
    have e : patB (.str z) = false := by
      have := not_le_dec' (m := 40) h2
      simp [patB, this]
    exact e ▸ q H (Same.refl H)
  have g2 := not_le_dec (m := 40) h2
  walk_at "rd"
  rw [in_sign 47 "/" z (by decide +kernel)]
  refine rd_ite (fun h3 => ?_) (fun h3 => ?_)
  · walk_at "rd"
    have e : patB (.str z) = false := by rw [patB_str, h3, Bool.not_true, Bool.false_and, Bool.and_false]
    exact e ▸ q H (Same.refl H)
  have eb : patB (.str z) = (toks (tl z)).isSome := by rw [patB_str, h3, decide_eq_true g1, decide_eq_true g2]; rfl
  rw [eb] at q
  clear eb h1 h2 h3
  walk_at "rd"
  refine rd_while (fun m σ H' => Same H H' ∧ ∃ (y : Str) (a b : Option V), m = y.length ∧ y.length ≤ 1000 ∧ (toks (tl z)).isSome = (toks (tl y)).isSome ∧ σ = [some (.str z), some (.str y), a, b])
    z.length ⟨Same.refl H, z, none, none, rfl, hz, rfl, rfl⟩ ?_
  rintro m σ H1 ⟨k1, y, a, b, rfl, hy, eq, rfl⟩
  have ly := len_tl y
  walk_at "rd"
  rw [dec_tl, tl_nil]
  refine rd_ite (fun h1 => ?_) (fun h1 => ?_)
  rotate_left
  · have e : tl y = [] := by simpa using h1
    walk_at "rd"
    have e2 : (toks (tl z)).isSome = true := by rw [eq, e]; rfl
    exact e2 ▸ q H1 k1
  obtain e | ⟨c, r, e⟩ := tl_cases y
  · rw [e] at h1; exact absurd h1 (by decide)
  refine rd_turn ?_
  rw [e] at eq ly
  rw [List.length_cons] at ly
  walk_at "rd"
  refine rd_ixS (c := c) (szOk (by omega)) (atI_nat (j := 0) (by show (tl y)[0]? = _; rw [e]; rfl)) ?_
  walk_at "rd"
  rw [dec_tl, tl_sg, show tl ("[" : Str) = [91] by decide +kernel]
  refine rd_ite (fun h2 => ?_) (fun h2 => ?_)
  · have e3 : tl (cutS y (some 1) none) = r := by
      have := tl_drop y 1
      rw [e] at this
      exact this
    have hc : c ≠ 91 := fun e => by rw [e] at h2; exact absurd h2 (by decide)
    rw [toks_step (show tokStep c r = some (tkOf c, r) by unfold tokStep; rw [if_neg hc]), isSome_map] at eq
    walk_at "rd"
    have lx : (cutS y (some 1) none).length < y.length := by rw [← len_tl, e3]; omega
    exact ⟨_, lx, k1, _, _, _, rfl, by omega, by rw [eq, e3], rfl⟩
  have hc : c = 91 := by simpa using h2
  subst hc
  have ets : tokStep 91 r = setL r := by unfold tokStep; rw [if_pos rfl]
  have fnd := find_cut0 y 93
  rw [e, cut93] at fnd
  have stop (h : setL r = none) : (toks (tl z)).isSome = false := by rw [eq, toks_stop (ets.trans h)]; rfl
  cases ec : cutAt 93 r with
  | none =>
    rw [ec] at fnd
    have fnd : Txt.find y ⟨#[93]⟩ = -1 := fnd
    have e0 : setL r = none := by unfold setL; rw [ec]
    walk_at "rd"
    refine ⟨_, _, rfl, rfl, ?_⟩
    rw [show ("]" : Str) = ⟨#[93]⟩ from by decide +kernel, fnd]
    walk_at "rd"
    rw [show max (1 : Int) (-1) = 1 from by decide]
    have eB : tl (cutS y (some 1) (some 1)) = [] := by
      have := tl_mid y 1 1 (by omega)
      rw [Nat.sub_self, List.take_zero] at this
      exact this
    generalize cutS y (some 1) (some 1) = B at eB ⊢
    have lB : B.length = 0 := by rw [← len_tl, eB]; rfl
    refine rd_meet (fun σ' H' => H1 = H' ∧ σ' = [some (.str z), some (.str y), some (.int (-1)), some (.str B)]) ?_ ?_
    · walk_at "rd"
      have e1 : tl (cutS B none (some 1)) = [] := by
        have := tl_take B 1
        rw [eB] at this
        exact this
      rw [dec_tl, e1, decide_eq_false (by decide +kernel)]
      walk_at "rd"
      exact ⟨rfl, rfl⟩
    rintro _ _ ⟨rfl, rfl⟩
    walk_at "rd"
    refine rd_yesI (by decide) ?_
    walk_at "rd"
    exact stop e0 ▸ q H1 k1
  | some bt =>
  obtain ⟨b, t⟩ := bt
  obtain ⟨e1, e2⟩ := cutAt_some ec
  rw [ec] at fnd
  have fnd : Txt.find y ⟨#[93]⟩ = ((b.length + 1 : Nat) : Int) := fnd
  have lr : r.length = b.length + 1 + t.length := by rw [e1, List.length_append, List.length_cons]; omega
  walk_at "rd"
  refine ⟨_, _, rfl, rfl, ?_⟩
  rw [show ("]" : Str) = ⟨#[93]⟩ from by decide +kernel, fnd]
  walk_at "rd"
  rw [show max (1 : Int) ((b.length + 1 : Nat) : Int) = ((b.length + 1 : Nat) : Int) by omega]
  have eB : tl (cutS y (some 1) (some ((b.length + 1 : Nat) : Int))) = b := by
    have := tl_mid y 1 (b.length + 1) (by omega)
    rw [e] at this
    refine this.trans ?_
    show List.take (b.length + 1 - 1) r = b
    rw [Nat.add_sub_cancel, e1, List.take_left]
  generalize cutS y (some 1) (some ((b.length + 1 : Nat) : Int)) = B at eB ⊢
  have lB : B.length = b.length := by rw [← len_tl, eB]
  have eneg : decide (b.take 1 = [33]) = negOf r := by
    unfold negOf
    rw [e1]
    cases b with
    | nil => rfl
    | cons x b => rfl
  have eS : setL r = match itemsL (b.drop (if negOf r then 1 else 0)) with
    | some (i :: is) => some (.set (negOf r) (i :: is), t)
    | _ => none := by
    unfold setL
    rw [ec] <;> rfl
  refine rd_meet (fun σ' H' => H1 = H' ∧ ∃ B' : Str, tl B' = b.drop (if negOf r then 1 else 0) ∧ B'.length ≤ 1000 ∧ σ' = [some (.str z), some (.str y), some (.int ((b.length + 1 : Nat) : Int)), some (.str B')]) ?_ ?_
  · walk_at "rd"
    have e3 : tl (cutS B none (some 1)) = b.take 1 := by
      have := tl_take B 1
      rw [eB] at this
      exact this
    rw [dec_tl, e3, show tl ("!" : Str) = [33] by decide +kernel, eneg]
    refine rd_ite (fun h3 => ?_) (fun h3 => ?_)
    · walk_at "rd"
      have e4 : tl (cutS B (some 1) none) = b.drop 1 := by
        have := tl_drop B 1
        rw [eB] at this
        exact this
      refine ⟨rfl, _, by rw [h3]; exact e4, ?_, rfl⟩
      rw [← len_tl, e4, List.length_drop]
      omega
    · walk_at "rd"
      exact ⟨rfl, _, by rw [h3]; exact eB, by omega, rfl⟩
  rintro _ _ ⟨rfl, B', eB', lB', rfl⟩
  rw [← eB'] at eS
  walk_at "rd"
  refine rd_noI (decide_eq_false (by omega)) ?_
  walk_at "rd"
  rw [dec_tl, tl_nil]
  refine rd_ite (fun h3 => ?_) (fun h3 => ?_)
  · walk_at "rd"
    have e5 : tl B' = [] := by simpa using h3
    rw [e5, itemsL_nil] at eS
    exact stop eS ▸ q H1 k1
  walk_at "rd"
  refine ⟨B', rfl, lB', fun H2 k2 => ?_⟩
  walk_at "rd"
  cases ei : itemsL (tl B') with
  | none =>
    rw [ei] at eS
    refine rd_yesI rfl ?_
    walk_at "rd"
    exact stop eS ▸ q H2 (k1.trans k2)
  | some l =>
  refine rd_noI rfl ?_
  walk_at "rd"
  have hl : l ≠ [] := by
    intro h
    rw [h] at ei
    obtain e5 | ⟨c5, r5, e5⟩ := tl_cases B'
    · rw [e5] at h3; exact absurd h3 (by decide)
    · rw [e5, itemsL_cons] at ei
      split at ei
      · obtain ⟨_, _, h7⟩ := Option.map_eq_some_iff.mp ei
        cases h7
      · cases ei
  obtain ⟨i, is, rfl⟩ : ∃ i is, l = i :: is := by
    cases l with
    | nil => exact absurd rfl hl
    | cons i is => exact ⟨i, is, rfl⟩
  rw [ei] at eS
  rw [toks_step (ets.trans eS), isSome_map] at eq
  have e6 : tl (cutS y (some (((b.length + 1 : Nat) : Int) + 1)) none) = t := by
    have := tl_drop y (b.length + 2)
    rw [e] at this
    refine this.trans ?_
    show List.drop (b.length + 1) r = t
    rw [e1, ← List.drop_drop, List.drop_left]
    rfl
  have lx : (cutS y (some (((b.length + 1 : Nat) : Int) + 1)) none).length < y.length := by rw [← len_tl, e6]; omega
  exact ⟨_, lx, k1.trans k2, _, _, _, rfl, by omega, by rw [eq, e6], rfl⟩
abbrev Φ_law_bent (K : PySem.W.Frag) := BentOf K
theorem ok_law_bent (T : Txt K mg) {f : Addr} {fd : FuncData} (F : Fun K "_law_bent" "_law_bent" s_law_bent f fd) : Keeps P w K mg base CX0 2 f fd ["deck", "text"] (sp2 (Φ_law_bent K)) := by
  have c_law_draw := cal (P := P) (w := w) (base := base) T.d_law_draw fun F => ok_law_draw T F
  refine keeps0_of F sc_law_bent (fun vs H Q E h => ?_) (fun cdv A outer s H vs Q E hr h => ?_)
  · obtain ⟨_, _, rfl, _⟩ := h
    rfl
  obtain ⟨v_deck, v_text, rfl, h⟩ := h
  have hu := hr.hu
  refine ⟨_, (pss_cons (ps_for PassesOwn.never rfl (pi_range1 (by rfl) T.b_range (pa_cons (pe_cal c_law_draw (hr.mono (by decide)) (by rfl) pass0 (pa_cons (pv 0) (pa_cons pe_int pa_nil))) pa_nil)) (pg_name (i := 2) sc_law_bent.nd rfl (by first | exact Or.inl rfl | exact Or.inr rfl)) (pss_cons (ps_set (i := 3) sc_law_bent.nd rfl (by first | exact Or.inl rfl | exact Or.inr rfl) (pe_cal c_law_draw (hr.mono (by decide)) (by rfl) pass0 (pa_cons (pv 0) (pa_cons (pe_op (oAdd (K := K)) (pe_callB (call_lenX (K := K)) (by rfl) T.b_len (by decide +kernel) (pa_cons (pv 1) pa_nil)) pe_int) pa_nil))))
      (pss_cons (ps_set (i := 4) sc_law_bent.nd rfl (by first | exact Or.inl rfl | exact Or.inr rfl) (pe_ix (ixX (K := K)) (pe_lst (pa_cons pe_str (pa_cons pe_str (pa_cons pe_str (pa_cons pe_str (pa_cons pe_str (pa_cons pe_str (pa_cons pe_str (pa_cons pe_str (pa_cons pe_str (pa_cons pe_str pa_nil))))))))))) (pe_cal c_law_draw (hr.mono (by decide)) (by rfl) pass0 (pa_cons (pv 0) (pa_cons pe_int pa_nil))) (fun _ _ => rfl)))
      (pss_one (ps_set (i := 1) sc_law_bent.nd rfl (by first | exact Or.inl rfl | exact Or.inr rfl) (pe_ix (ixX (K := K)) (pe_lst (pa_cons (pe_op (oAdd (K := K)) (pe_op (oAdd (K := K)) (pe_slice (sX (K := K)) (pv 1) po_none (po_some (pv 3))) (pv 4)) (pe_slice (sX (K := K)) (pv 1) (po_some (pv 3)) po_none)) (pa_cons (pe_op (oAdd (K := K)) (pe_slice (sX (K := K)) (pv 1) po_none (po_some (pv 3))) (pe_slice (sX (K := K)) (pv 1) (po_some (pe_op (oAdd (K := K)) (pv 3) pe_int)) po_none)) (pa_cons (pe_op (oAdd (K := K)) (pe_op (oAdd (K := K)) (pe_slice (sX (K := K)) (pv 1) po_none (po_some (pv 3))) (pv 4)) (pe_slice (sX (K := K)) (pv 1) (po_some (pe_op (oAdd (K := K)) (pv 3) pe_int)) po_none)) pa_nil)))) (pe_cal c_law_draw (hr.mono (by decide)) (by rfl) pass0 (pa_cons (pv 0) (pa_cons pe_int pa_nil))) (fun _ _ => rfl)))))))
      (pss_one (ps_ret (pv 1)))), ?_⟩
  rw [show start ["deck", "text", "turn", "at", "sign"] [v_deck, v_text] = [some v_deck, some v_text, none, none, none] from rfl]
  try dsimp only [cxOf, Cx.nox, Cx.wish]
  obtain ⟨d, z, m, rfl, rfl, hz, hd, hm, q⟩ := h
  walk_at "rd"
  refine use_draw hd (by decide) (by decide) (by omega) fun n H1 n0 n1 d1 k1 => ?_
  walk_at "rd"
  refine rd_itR (by omega) (by omega) (fun i σ H' => Kp d H H' ∧ Dk d (m + 1 + 3 * i) H' ∧ ∃ (y : Str) (a b c : Option V), y.length ≤ z.length + i ∧ σ = [some (.ref d), some (.str y), a, b, c])
    ⟨k1, d1, z, none, none, none, Nat.le_refl _, rfl⟩ ?_ ?_
  · rintro i σ H2 hi ⟨k2, d2, y, a, b, c, hy, rfl⟩
    walk_at "rd"
    refine use_draw d2 (by omega) (by omega) (by omega) fun at_ H3 a0 a1 d3 k3 => ?_
    walk_at "rd"
    intro l hl
    walk_at "rd"
    refine use_draw (d3.new hl) (by decide) (by decide) (by omega) fun v H4 v0 v1 d4 k4 => ?_
    refine pickS 1 (SqL.of (k4.at (d3.ne hl))) v0 v1 (by decide +kernel) fun s hs => ?_
    have c1 := cut_take (z := y) a0
    have c2 := cut_drop (z := y) a0
    have c3 := cut_drop (z := y) (i := at_ + 1) (by omega)
    walk_at "rd"
    intro o ho
    walk_at "rd"
    refine use_draw (d4.new ho) (by decide) (by decide) (by omega) fun u H5 u0 u1 d5 k5 => ?_
    refine pickS (z.length + (i + 1)) (SqL.of (k5.at (d4.ne ho))) u0 u1 ?_ fun p hp => ?_
    · simp only [List.all_cons, List.all_nil, strLe, len_app, Bool.and_true, Bool.and_eq_true, decide_eq_true_eq]
      omega
    · walk_at "rd"
      exact ⟨(((k2.trans k3).new hl).trans k4 |>.new ho).trans k5, d5.mono (by omega), p, _, _, _, hp, rfl⟩
  · rintro σ H2 ⟨k2, d2, y, a, b, c, hy, rfl⟩
    walk_at "rd"
    exact q y H2 (by omega) (d2.mono (by omega)) k2
def Φ_law_right (K : PySem.W.Frag) (vd : V) (H : Hp) (Q : VK) : Prop := ∃ d : Addr, vd = .ref d ∧ Dk d 0 H ∧ ∀ H', Kp d H H' → Q (.bl true) H'
theorem ok_law_right (T : Txt K mg) {f : Addr} {fd : FuncData} (F : Fun K "_law_right" "_law_right" s_law_right f fd) : Keeps P w K mg base CX0 6 f fd ["deck"] (sp1 (Φ_law_right K)) := by
  have c_law_bent := cal (P := P) (w := w) (base := base) T.d_law_bent fun F => ok_law_bent T F
  have c_law_pattern_right := cal (P := P) (w := w) (base := base) T.d_law_pattern_right fun F => ok_law_pattern_right T F
  have c_law_pattern := cal (P := P) (w := w) (base := base) T.d_law_pattern fun F => ok_law_pattern T F
  have c_law_draw := cal (P := P) (w := w) (base := base) T.d_law_draw fun F => ok_law_draw T F
  have c_is_pattern := cal (P := P) (w := w) (base := base) T.d_is_pattern fun F => ok_is_pattern T F
  refine keeps0_of F sc_law_right (fun vs H Q E h => ?_) (fun cdv A outer s H vs Q E hr h => ?_)
  · obtain ⟨_, rfl, _⟩ := h
    rfl
  obtain ⟨v_deck, rfl, h⟩ := h
  have hu := hr.hu
  refine ⟨_, (pss_cons (ps_setLc (i := 1) (own := [("turn", 4)]) rfl sc_law_right.nd rfl rfl (sw_true rfl rfl rfl (by decide +kernel)) (pi_range1 (by rfl) T.b_range (pa_cons pe_int pa_nil)) (blkOk_by (own := [("turn", 4)]) (N := ["deck", "values", "value", "due", "turn"]) (sc := defScope s_law_right) (by decide +kernel)) (fun _ _ _ _ _ => pg_name (i := 4) sc_law_right.nd rfl (by first | exact Or.inl rfl | exact Or.inr rfl)) (fun _ _ _ _ _ => pts_nil) (fun _ _ _ _ _ => (pe_cal c_law_bent (hr.mono (by decide)) (by rfl) pass0 (pa_cons (pv 0) (pa_cons (pe_cal c_law_pattern (hr.mono (by decide)) (by rfl) pass0 (pa_cons (pv 0) (pa_cons pe_int pa_nil))) pa_nil)))))
      (pss_cons (ps_set (i := 1) sc_law_right.nd rfl (by first | exact Or.inl rfl | exact Or.inr rfl) (pe_op (oAdd (K := K)) (pv 1) (pe_lst (pa_cons (pe_ix (ixX (K := K)) (pe_lst (pa_cons (pe_op (oMul (K := K)) pe_str pe_int) (pa_cons (pe_op (oMul (K := K)) pe_str pe_int) (pa_cons (pe_op (oAdd (K := K)) (pe_op (oMul (K := K)) pe_str pe_int) pe_str) (pa_cons (pe_op (oMul (K := K)) pe_str pe_int) (pa_cons pe_str (pa_cons pe_str (pa_cons pe_str (pa_cons pe_str (pa_cons pe_str (pa_cons pe_str (pa_cons pe_str (pa_cons pe_str (pa_cons pe_str (pa_cons pe_str pa_nil))))))))))))))) (pe_cal c_law_draw (hr.mono (by decide)) (by rfl) pass0 (pa_cons (pv 0) (pa_cons pe_int pa_nil))) (fun _ _ => rfl)) pa_nil))))
      (pss_cons (ps_expr (pe_bmX (K := K) PySem.F.plainAttrs_list PySem.F.slot_list_append PySem.F.type_list_append mt_append (pv 1) (pa_cons (pe_ix (ixX (K := K)) (pe_lst (pa_cons pe_non (pa_cons pe_int (pa_cons pe_bl (pa_cons (pe_tup (pa_cons pe_str pa_nil)) (pa_cons (pe_lst (pa_cons pe_str pa_nil)) (pa_cons pe_str pa_nil))))))) (pe_cal c_law_draw (hr.mono (by decide)) (by rfl) pass0 (pa_cons (pv 0) (pa_cons pe_int pa_nil))) (fun _ _ => rfl)) pa_nil)))
      (pss_cons (ps_for PassesOwn.never rfl (pi_any (K := K) (pv 1)) (pg_name (i := 2) sc_law_right.nd rfl (by first | exact Or.inl rfl | exact Or.inr rfl)) (pss_cons (ps_set (i := 3) sc_law_right.nd rfl (by first | exact Or.inl rfl | exact Or.inr rfl) (pe_cal c_law_pattern_right (hr.mono (by decide)) (by rfl) pass0 (pa_cons (pv 2) pa_nil)))
      (pss_one (ps_if (pt_cmpR (oNe (K := K) hr.u65) (pe_callB (call_reprX (K := K) (hr.mono (Nat.zero_le _))) (by rfl) T.b_repr (by decide +kernel) (pa_cons (pe_lst (pa_cons (pe_cal c_is_pattern (hr.mono (by decide)) (by rfl) pass0 (pa_cons (pv 2) pa_nil)) (pa_cons (pe_calK0 (ks := ["value"]) (pm := [0]) c_is_pattern (hr.mono (by decide)) (by rfl) (fun _ _ _ _ _ _ us ws h1 h2 => match us, ws, h1, h2 with | [], [_], _, _ => rfl) pass0 (pk_cons (pv 2) pk_nil)) pa_nil))) pa_nil)) (pe_callB (call_reprX (K := K) (hr.mono (Nat.zero_le _))) (by rfl) T.b_repr (by decide +kernel) (pa_cons (pe_lst (pa_cons (pv 3) (pa_cons (pv 3) pa_nil))) pa_nil)) (nomark _)) (pss_one (ps_ret pe_bl)) pss_nil))))
      (pss_one (ps_ret pe_bl)))))), ?_⟩
  rw [show start ["deck", "values", "value", "due", "turn"] [v_deck] = [some v_deck, none, none, none, none] from rfl]
  try dsimp only [cxOf, Cx.nox, Cx.wish]
  obtain ⟨d, rfl, hd, q⟩ := h
  walk_at "rd"
  refine rd_clR (by decide) (by decide) (fun D i H' => Kp d H H' ∧ Dk d (40 * i) H' ∧ ∃ ss : List Str, ss.length = i ∧ (∀ s ∈ ss, s.length ≤ 1000) ∧ H' D = some (.lst (ss.map V.str)))
    (fun D hD => ⟨(Kp.refl d H).new hD, hd.new hD, [], rfl, (fun _ h => nomatch h), upd_same⟩) ?_ ?_
  · rintro D i H1 hD hi ⟨k1, d1, ss, hl, hs, h1⟩
    have hi' : i < 10 := by omega
    have nD := hd.ne hD
    have bound : 40 * (i + 1) ≤ LIM := by unfold LIM; omega
    walk_at "rd"
    refine ⟨rfl, d, _, rfl, d1, by omega, fun z H2 hz d2 k2 => ?_⟩
    walk_at "rd"
    refine ⟨d, z, _, rfl, rfl, by omega, d2, by omega, fun y H3 hy d3 k3 => ?_⟩
    refine ⟨ss.map V.str, k3 _ _ nD.symm (k2 _ _ nD.symm h1), szLt (by rw [List.length_map]; omega), ((k1.trans k2).trans k3).put hD, (d3.mono (by omega)).put nD, ss ++ [y], by rw [List.length_append, hl]; rfl, ?_, by rw [upd_same, List.map_append]; rfl⟩
    intro u hu1
    rcases List.mem_append.mp hu1 with h | h
    · exact hs u h
    · rw [List.mem_singleton.mp h]; omega
  rintro D1 H1 hD1 ⟨k1, d1, ss, hl1, hs1, h1⟩
  have nD1 := hd.ne hD1
  walk_at "rd"
  intro p1 hp1
  walk_at "rd"
  refine use_draw (d1.new hp1) (by decide) (by decide) (by show 40 * 10 < LIM; unfold LIM; omega) fun v1 H2 v10 v11 d2 k2 => ?_
  refine pickS 100 (SqL.of (k2.at (d1.ne hp1))) v10 v11 (by decide +kernel) fun s1 hs2 => ?_
  walk_at "rd"
  intro q1 hq1
  have d3 := d2.new (o := .lst [V.str s1]) hq1
  have h2 : upd H2 q1 (.lst [V.str s1]) D1 = some (.lst (ss.map V.str)) := (k2.new hq1) _ _ nD1.symm (by rw [upd_ne (ne_of_none h1 hp1)]; exact h1)
  refine rd_cat h2 upd_same (szOk (by rw [List.length_map, hl1]; exact Nat.le_of_ble_eq_true rfl)) fun A hA => ?_
  have d4 := d3.new (o := .lst (ss.map V.str ++ [V.str s1])) hA
  have nA := d3.ne hA
  walk_at "rd"
  refine rd_tyL (SqL.of upd_same) ?_
  walk_at "rd"
  intro t ht
  walk_at "rd"
  intro l hl
  walk_at "rd"
  intro p hp
  walk_at "rd"
  have d5 := d4.new (o := .tup [V.str "a"]) ht
  have d6 := d5.new (o := .lst [V.str "*"]) hl
  have np := d6.ne hp
  have nt := d4.ne ht
  have nl := d5.ne hl
  refine use_draw (d6.new hp) (by decide) (by decide) (by show 40 * 10 + 1 < LIM; unfold LIM; omega) fun v H3 v0 v1 d7 k3 => ?_
  have tA : t ≠ A := fun h => by rw [h, upd_same] at ht; cases ht
  have lA : l ≠ A := fun h => by
    rw [h, upd_ne tA.symm, upd_same] at hl
    cases hl
  have lt : l ≠ t := fun h => by rw [h, upd_same] at hl; cases hl
  have pA : p ≠ A := fun h => by
    rw [h, upd_ne lA.symm, upd_ne tA.symm, upd_same] at hp
    cases hp
  have pt : p ≠ t := fun h => by
    rw [h, upd_ne lt.symm, upd_same] at hp
    cases hp
  have pl : p ≠ l := fun h => by rw [h, upd_same] at hp; cases hp
  have fA : H3 A = some (.lst (ss.map V.str ++ [V.str s1])) := k3 _ _ nA.symm (by rw [upd_ne pA.symm, upd_ne lA.symm, upd_ne tA.symm, upd_same])
  have ft : H3 t = some (.tup [V.str "a"]) := k3 _ _ nt.symm (by rw [upd_ne pt.symm, upd_ne lt.symm, upd_same])
  have fl : H3 l = some (.lst [V.str "*"]) := k3 _ _ nl.symm (by rw [upd_ne pl.symm, upd_same])
  have kk : Kp d H H3 := ((((((k1.new hp1).trans k2).new hq1).new hA).new ht).new hl |>.new hp).trans k3
  refine pick (SqL.of (k3.at np)) v0 v1 fun x hx => ?_
  have ax : AnyP K H3 x := by
    simp only [List.mem_cons, List.not_mem_nil, or_false] at hx
    rcases hx with rfl | rfl | rfl | rfl | rfl | rfl
    · exact .inr ⟨rfl, _, .base .non, kit_ty (by decide +kernel)⟩
    · exact .inr ⟨rfl, _, .base (.int _), kit_ty (by decide +kernel)⟩
    · exact .inr ⟨rfl, _, .base (.bl _), kit_ty (by decide +kernel)⟩
    · exact .inr ⟨rfl, _, .base (.tup ft), kit_ty (by decide +kernel)⟩
    · exact .inr ⟨rfl, _, .base (.lst fl), kit_ty (by decide +kernel)⟩
    · exact .inl ⟨_, rfl, by decide +kernel⟩
  walk_at "rd"
  refine rd_app fA (szLt (by rw [List.length_append, List.length_map, hl1]; exact Nat.le_of_ble_eq_true rfl)) ?_
  walk_at "rd"
  have ax' : AnyP K (upd H3 A (.lst (ss.map V.str ++ [V.str s1] ++ [x]))) x := by
    rcases ax with h | h
    · exact .inl h
    · simp only [List.mem_cons, List.not_mem_nil, or_false] at hx
      rcases hx with rfl | rfl | rfl | rfl | rfl | rfl
      · exact .inr ⟨rfl, _, .base .non, kit_ty (by decide +kernel)⟩
      · exact .inr ⟨rfl, _, .base (.int _), kit_ty (by decide +kernel)⟩
      · exact .inr ⟨rfl, _, .base (.bl _), kit_ty (by decide +kernel)⟩
      · exact .inr ⟨rfl, _, .base (.tup (by rw [upd_ne tA]; exact ft)), kit_ty (by decide +kernel)⟩
      · exact .inr ⟨rfl, _, .base (.lst (by rw [upd_ne lA]; exact fl)), kit_ty (by decide +kernel)⟩
      · exact .inl ⟨_, rfl, by decide +kernel⟩
  have all : ∀ y ∈ ss.map V.str ++ [V.str s1] ++ [x], ∀ H', Same (upd H3 A (.lst (ss.map V.str ++ [V.str s1] ++ [x]))) H' → AnyP K H' y := by
    intro y hy H' e
    rcases List.mem_append.mp hy with hy | hy
    · refine .inl ?_
      rcases List.mem_append.mp hy with hy | hy
      · obtain ⟨z, hz, rfl⟩ := List.mem_map.mp hy
        exact ⟨z, rfl, hs1 z hz⟩
      · rw [List.mem_singleton.mp hy]
        exact ⟨s1, rfl, by omega⟩
    · rw [List.mem_singleton.mp hy]
      exact ax'.mono e
  have hA0 : H A = none := by
    cases q : H A with
    | none => rfl
    | some o =>
      have := (((k1.new hp1).trans k2).new (o := .lst [V.str s1]) hq1) A o (fun e => nA e.symm) q
      rw [hA] at this
      cases this
  refine rd_forL ?_
  walk_at "rd"
  refine rd_itL (SqL.of upd_same) (fun i σ H' => Same (upd H3 A (.lst (ss.map V.str ++ [V.str s1] ++ [x]))) H' ∧ ∃ a b : Option V, σ = [some (.ref d), some (.ref A), a, b, none]) ⟨Same.refl _, none, none, rfl⟩ ?_ ?_ ?_
  · rintro i σ H' _ ⟨e, _⟩
    exact e.seq (SqL.of upd_same)
  · rintro i y σ H' hi ⟨e, a, b, rfl⟩
    have ay := all y (List.mem_of_getElem? hi)
    walk_at "rd"
    refine ⟨ay H' e, fun H4 e4 => ?_⟩
    walk_at "rd"
    refine ⟨ay H4 (e.trans e4), fun H5 e5 => ?_⟩
    walk_at "rd"
    refine ⟨rfl, rfl, _, rfl, ?_⟩
    refine ⟨ay H5 ((e.trans e4).trans e5), fun H6 e6 => ?_⟩
    walk_at "rd"
    intro r1 hr1
    walk_at "rd"
    refine rd_repr (.lst (SqL.of upd_same) (.cons (.bl _) (.cons (.bl _) .nil))) (shows_2 (patB y)) ?_
    walk_at "rd"
    intro r2 hr2
    walk_at "rd"
    refine rd_repr (.lst (SqL.of upd_same) (.cons (.bl _) (.cons (.bl _) .nil))) (shows_2 (patB y)) ?_
    walk_at "rd"
    rw [decide_eq_true rfl]
    walk_at "rd"
    exact ⟨(((((e.trans e4).trans e5).trans e6).new hr1).new hr2), _, _, rfl⟩
  · rintro σ H' ⟨e, a, b, rfl⟩
    walk_at "rd"
    exact q H' (fun c o n h => e _ _ (by rw [upd_ne (fun e => by rw [e, hA0] at h; cases h)]; exact kk _ _ n h))
def Φ_law (K : PySem.W.Frag) (v : V) (H : Hp) (Q : VK) : Prop := ∃ (a : Addr) (ns : List Int), v = .ref a ∧ SqL K H a (ns.map V.int) ∧ ns.length ≤ 63 ∧ ∀ H', Q (.bl true) H'
theorem ok_law (T : Txt K mg) {f : Addr} {fd : FuncData} (F : Fun K "law" "law" s_law f fd) : Keeps P w K mg base CX0 7 f fd ["script"] (sp1 (Φ_law K)) := by
  have c_law_right := cal (P := P) (w := w) (base := base) T.d_law_right fun F => ok_law_right T F
  have c_law_deck := cal (P := P) (w := w) (base := base) T.d_law_deck fun F => ok_law_deck T F
  refine keeps0_of F sc_law (fun vs H Q E h => ?_) (fun cdv A outer s H vs Q E hr h => ?_)
  · obtain ⟨_, rfl, _⟩ := h
    rfl
  obtain ⟨v_script, rfl, h⟩ := h
  have hu := hr.hu
  refine ⟨_, (pss_cons (ps_for PassesOwn.never rfl (pi_range1 (by rfl) T.b_range (pa_cons (pe_callB (call_maxX rfl) (by rfl) T.b_max (by decide +kernel) (pa_cons pe_int (pa_cons (pe_callB (call_minX rfl) (by rfl) T.b_min (by decide +kernel) (pa_cons pe_int (pa_cons (pe_callB (call_lenX (K := K)) (by rfl) T.b_len (by decide +kernel) (pa_cons (pv 0) pa_nil)) pa_nil))) pa_nil))) pa_nil)) (pg_name (i := 1) sc_law.nd rfl (by first | exact Or.inl rfl | exact Or.inr rfl)) (pss_one (ps_if (pt_not (pt_val (pe_cal c_law_right (hr.mono (by decide)) (by rfl) pass0 (pa_cons (pe_cal c_law_deck (hr.mono (by decide)) (by rfl) pass0 (pa_cons (pv 0) (pa_cons (pv 1) pa_nil))) pa_nil)))) (pss_one (ps_ret pe_bl)) pss_nil)))
      (pss_one (ps_ret pe_bl))), ?_⟩
  rw [show start ["script", "k"] [v_script] = [some v_script, none] from rfl]
  try dsimp only [cxOf, Cx.nox, Cx.wish]
  obtain ⟨a, ns, rfl, hS, hl, q⟩ := h
  walk_at "rd"
  refine rd_lenL hS ?_
  walk_at "rd"
  refine rd_itR (by omega) (by rw [List.length_map]; omega) (fun i σ H' => Same H H' ∧ ∃ v, σ = [some (.ref a), v]) ⟨Same.refl H, none, rfl⟩ ?_ ?_
  · rintro i σ H1 hi ⟨e, v, rfl⟩
    rw [List.length_map] at hi
    walk_at "rd"
    refine ⟨a, ns, i, rfl, rfl, e.seq hS, hl, by omega, by omega, fun d H2 hd d2 e2 => ?_⟩
    walk_at "rd"
    refine ⟨d, rfl, d2, fun H3 k3 => ?_⟩
    walk_at "rd"
    refine ⟨fun b o h => ?_, _, rfl⟩
    have h1 := e _ _ h
    exact k3 _ _ (ne_of_none h1 hd) (e2 _ _ h1)
  · rintro σ H1 ⟨e, v, rfl⟩
    walk_at "rd"
    exact q H1
end
/-- the facts of the top -/
theorem all_mk {K : PySem.W.Frag} {h : Heap} {mg : Str → Option Value} (X : K.In h) (G : h.Ns mainGlobals mg)
    {u_MOST_PATTERN u_ANY u_ONE u_SIGN u_SET u_NO_ITEMS : Value}
    (h_MOST_PATTERN : PySem.W.nsIn K mainGlobals "MOST_PATTERN" = some (some u_MOST_PATTERN)) (r_MOST_PATTERN : RelV (.int 40) u_MOST_PATTERN)
    (h_ANY : PySem.W.nsIn K mainGlobals "ANY" = some (some u_ANY)) (r_ANY : RelV (.str "any") u_ANY)
    (h_ONE : PySem.W.nsIn K mainGlobals "ONE" = some (some u_ONE)) (r_ONE : RelV (.str "one") u_ONE)
    (h_SIGN : PySem.W.nsIn K mainGlobals "SIGN" = some (some u_SIGN)) (r_SIGN : RelV (.str "sign") u_SIGN)
    (h_SET : PySem.W.nsIn K mainGlobals "SET" = some (some u_SET)) (r_SET : RelV (.str "set") u_SET)
    (h_NO_ITEMS : PySem.W.nsIn K mainGlobals "NO_ITEMS" = some (some u_NO_ITEMS)) (r_NO_ITEMS : RelV (.str "[]!-") u_NO_ITEMS)
    {f_items_of : Addr} {od_items_of an_items_of : Option Addr} {sl_items_of : Array (Option Value)} {oc_items_of kV_items_of dc_items_of pm_items_of cd_items_of ct_items_of : Value}
    (a_items_of : PySem.W.nsIn K mainGlobals "items_of" = some (some (.ref f_items_of))) (l_items_of : K.lookup f_items_of = some ⟨oc_items_of, od_items_of, .func (PySem.W.fnOf "items_of" "items_of" (defArgs s_items_of) (defBody s_items_of) (defScope s_items_of) .none kV_items_of dc_items_of pm_items_of an_items_of cd_items_of ct_items_of), sl_items_of⟩) (c_items_of : PySem.W.codeIn K cd_items_of "items_of" = true) (k_items_of : PySem.W.keepIn K (.ref f_items_of) = true)
    {f_set_at : Addr} {od_set_at an_set_at : Option Addr} {sl_set_at : Array (Option Value)} {oc_set_at kV_set_at dc_set_at pm_set_at cd_set_at ct_set_at : Value}
    (a_set_at : PySem.W.nsIn K mainGlobals "set_at" = some (some (.ref f_set_at))) (l_set_at : K.lookup f_set_at = some ⟨oc_set_at, od_set_at, .func (PySem.W.fnOf "set_at" "set_at" (defArgs s_set_at) (defBody s_set_at) (defScope s_set_at) .none kV_set_at dc_set_at pm_set_at an_set_at cd_set_at ct_set_at), sl_set_at⟩) (c_set_at : PySem.W.codeIn K cd_set_at "set_at" = true) (k_set_at : PySem.W.keepIn K (.ref f_set_at) = true)
    {f_tokens_of : Addr} {od_tokens_of an_tokens_of : Option Addr} {sl_tokens_of : Array (Option Value)} {oc_tokens_of kV_tokens_of dc_tokens_of pm_tokens_of cd_tokens_of ct_tokens_of : Value}
    (a_tokens_of : PySem.W.nsIn K mainGlobals "tokens_of" = some (some (.ref f_tokens_of))) (l_tokens_of : K.lookup f_tokens_of = some ⟨oc_tokens_of, od_tokens_of, .func (PySem.W.fnOf "tokens_of" "tokens_of" (defArgs s_tokens_of) (defBody s_tokens_of) (defScope s_tokens_of) .none kV_tokens_of dc_tokens_of pm_tokens_of an_tokens_of cd_tokens_of ct_tokens_of), sl_tokens_of⟩) (c_tokens_of : PySem.W.codeIn K cd_tokens_of "tokens_of" = true) (k_tokens_of : PySem.W.keepIn K (.ref f_tokens_of) = true)
    {f_is_a_pattern : Addr} {od_is_a_pattern an_is_a_pattern : Option Addr} {sl_is_a_pattern : Array (Option Value)} {oc_is_a_pattern kV_is_a_pattern dc_is_a_pattern pm_is_a_pattern cd_is_a_pattern ct_is_a_pattern : Value}
    (a_is_a_pattern : PySem.W.nsIn K mainGlobals "is_a_pattern" = some (some (.ref f_is_a_pattern))) (l_is_a_pattern : K.lookup f_is_a_pattern = some ⟨oc_is_a_pattern, od_is_a_pattern, .func (PySem.W.fnOf "is_a_pattern" "is_a_pattern" (defArgs s_is_a_pattern) (defBody s_is_a_pattern) (defScope s_is_a_pattern) .none kV_is_a_pattern dc_is_a_pattern pm_is_a_pattern an_is_a_pattern cd_is_a_pattern ct_is_a_pattern), sl_is_a_pattern⟩) (c_is_a_pattern : PySem.W.codeIn K cd_is_a_pattern "is_a_pattern" = true) (k_is_a_pattern : PySem.W.keepIn K (.ref f_is_a_pattern) = true)
    {f_is_pattern : Addr} {od_is_pattern an_is_pattern : Option Addr} {sl_is_pattern : Array (Option Value)} {oc_is_pattern kV_is_pattern dc_is_pattern pm_is_pattern cd_is_pattern ct_is_pattern : Value}
    (a_is_pattern : PySem.W.nsIn K mainGlobals "is_pattern" = some (some (.ref f_is_pattern))) (l_is_pattern : K.lookup f_is_pattern = some ⟨oc_is_pattern, od_is_pattern, .func (PySem.W.fnOf "is_pattern" "is_pattern" (defArgs s_is_pattern) (defBody s_is_pattern) (defScope s_is_pattern) .none kV_is_pattern dc_is_pattern pm_is_pattern an_is_pattern cd_is_pattern ct_is_pattern), sl_is_pattern⟩) (c_is_pattern : PySem.W.codeIn K cd_is_pattern "is_pattern" = true) (k_is_pattern : PySem.W.keepIn K (.ref f_is_pattern) = true)
    {f_law_deck : Addr} {od_law_deck an_law_deck : Option Addr} {sl_law_deck : Array (Option Value)} {oc_law_deck kV_law_deck dc_law_deck pm_law_deck cd_law_deck ct_law_deck : Value}
    (a_law_deck : PySem.W.nsIn K mainGlobals "_law_deck" = some (some (.ref f_law_deck))) (l_law_deck : K.lookup f_law_deck = some ⟨oc_law_deck, od_law_deck, .func (PySem.W.fnOf "_law_deck" "_law_deck" (defArgs s_law_deck) (defBody s_law_deck) (defScope s_law_deck) .none kV_law_deck dc_law_deck pm_law_deck an_law_deck cd_law_deck ct_law_deck), sl_law_deck⟩) (c_law_deck : PySem.W.codeIn K cd_law_deck "_law_deck" = true) (k_law_deck : PySem.W.keepIn K (.ref f_law_deck) = true)
    {f_law_draw : Addr} {od_law_draw an_law_draw : Option Addr} {sl_law_draw : Array (Option Value)} {oc_law_draw kV_law_draw dc_law_draw pm_law_draw cd_law_draw ct_law_draw : Value}
    (a_law_draw : PySem.W.nsIn K mainGlobals "_law_draw" = some (some (.ref f_law_draw))) (l_law_draw : K.lookup f_law_draw = some ⟨oc_law_draw, od_law_draw, .func (PySem.W.fnOf "_law_draw" "_law_draw" (defArgs s_law_draw) (defBody s_law_draw) (defScope s_law_draw) .none kV_law_draw dc_law_draw pm_law_draw an_law_draw cd_law_draw ct_law_draw), sl_law_draw⟩) (c_law_draw : PySem.W.codeIn K cd_law_draw "_law_draw" = true) (k_law_draw : PySem.W.keepIn K (.ref f_law_draw) = true)
    {f_law_pattern : Addr} {od_law_pattern an_law_pattern : Option Addr} {sl_law_pattern : Array (Option Value)} {oc_law_pattern kV_law_pattern dc_law_pattern pm_law_pattern cd_law_pattern ct_law_pattern : Value}
    (a_law_pattern : PySem.W.nsIn K mainGlobals "_law_pattern" = some (some (.ref f_law_pattern))) (l_law_pattern : K.lookup f_law_pattern = some ⟨oc_law_pattern, od_law_pattern, .func (PySem.W.fnOf "_law_pattern" "_law_pattern" (defArgs s_law_pattern) (defBody s_law_pattern) (defScope s_law_pattern) .none kV_law_pattern dc_law_pattern pm_law_pattern an_law_pattern cd_law_pattern ct_law_pattern), sl_law_pattern⟩) (c_law_pattern : PySem.W.codeIn K cd_law_pattern "_law_pattern" = true) (k_law_pattern : PySem.W.keepIn K (.ref f_law_pattern) = true)
    {f_law_pattern_right : Addr} {od_law_pattern_right an_law_pattern_right : Option Addr} {sl_law_pattern_right : Array (Option Value)} {oc_law_pattern_right kV_law_pattern_right dc_law_pattern_right pm_law_pattern_right cd_law_pattern_right ct_law_pattern_right : Value}
    (a_law_pattern_right : PySem.W.nsIn K mainGlobals "_law_pattern_right" = some (some (.ref f_law_pattern_right))) (l_law_pattern_right : K.lookup f_law_pattern_right = some ⟨oc_law_pattern_right, od_law_pattern_right, .func (PySem.W.fnOf "_law_pattern_right" "_law_pattern_right" (defArgs s_law_pattern_right) (defBody s_law_pattern_right) (defScope s_law_pattern_right) .none kV_law_pattern_right dc_law_pattern_right pm_law_pattern_right an_law_pattern_right cd_law_pattern_right ct_law_pattern_right), sl_law_pattern_right⟩) (c_law_pattern_right : PySem.W.codeIn K cd_law_pattern_right "_law_pattern_right" = true) (k_law_pattern_right : PySem.W.keepIn K (.ref f_law_pattern_right) = true)
    {f_law_items_right : Addr} {od_law_items_right an_law_items_right : Option Addr} {sl_law_items_right : Array (Option Value)} {oc_law_items_right kV_law_items_right dc_law_items_right pm_law_items_right cd_law_items_right ct_law_items_right : Value}
    (a_law_items_right : PySem.W.nsIn K mainGlobals "_law_items_right" = some (some (.ref f_law_items_right))) (l_law_items_right : K.lookup f_law_items_right = some ⟨oc_law_items_right, od_law_items_right, .func (PySem.W.fnOf "_law_items_right" "_law_items_right" (defArgs s_law_items_right) (defBody s_law_items_right) (defScope s_law_items_right) .none kV_law_items_right dc_law_items_right pm_law_items_right an_law_items_right cd_law_items_right ct_law_items_right), sl_law_items_right⟩) (c_law_items_right : PySem.W.codeIn K cd_law_items_right "_law_items_right" = true) (k_law_items_right : PySem.W.keepIn K (.ref f_law_items_right) = true)
    {f_law_bent : Addr} {od_law_bent an_law_bent : Option Addr} {sl_law_bent : Array (Option Value)} {oc_law_bent kV_law_bent dc_law_bent pm_law_bent cd_law_bent ct_law_bent : Value}
    (a_law_bent : PySem.W.nsIn K mainGlobals "_law_bent" = some (some (.ref f_law_bent))) (l_law_bent : K.lookup f_law_bent = some ⟨oc_law_bent, od_law_bent, .func (PySem.W.fnOf "_law_bent" "_law_bent" (defArgs s_law_bent) (defBody s_law_bent) (defScope s_law_bent) .none kV_law_bent dc_law_bent pm_law_bent an_law_bent cd_law_bent ct_law_bent), sl_law_bent⟩) (c_law_bent : PySem.W.codeIn K cd_law_bent "_law_bent" = true) (k_law_bent : PySem.W.keepIn K (.ref f_law_bent) = true)
    {f_law_right : Addr} {od_law_right an_law_right : Option Addr} {sl_law_right : Array (Option Value)} {oc_law_right kV_law_right dc_law_right pm_law_right cd_law_right ct_law_right : Value}
    (a_law_right : PySem.W.nsIn K mainGlobals "_law_right" = some (some (.ref f_law_right))) (l_law_right : K.lookup f_law_right = some ⟨oc_law_right, od_law_right, .func (PySem.W.fnOf "_law_right" "_law_right" (defArgs s_law_right) (defBody s_law_right) (defScope s_law_right) .none kV_law_right dc_law_right pm_law_right an_law_right cd_law_right ct_law_right), sl_law_right⟩) (c_law_right : PySem.W.codeIn K cd_law_right "_law_right" = true) (k_law_right : PySem.W.keepIn K (.ref f_law_right) = true)
    {f_law : Addr} {od_law an_law : Option Addr} {sl_law : Array (Option Value)} {oc_law kV_law dc_law pm_law cd_law ct_law : Value}
    (a_law : PySem.W.nsIn K mainGlobals "law" = some (some (.ref f_law))) (l_law : K.lookup f_law = some ⟨oc_law, od_law, .func (PySem.W.fnOf "law" "law" (defArgs s_law) (defBody s_law) (defScope s_law) .none kV_law dc_law pm_law an_law cd_law ct_law), sl_law⟩) (c_law : PySem.W.codeIn K cd_law "law" = true) (k_law : PySem.W.keepIn K (.ref f_law) = true)
    (z_int : PySem.W.nsIn K mainGlobals "int" = some none)
    (z_isinstance : PySem.W.nsIn K mainGlobals "isinstance" = some none)
    (z_len : PySem.W.nsIn K mainGlobals "len" = some none)
    (z_max : PySem.W.nsIn K mainGlobals "max" = some none)
    (z_min : PySem.W.nsIn K mainGlobals "min" = some none)
    (z_range : PySem.W.nsIn K mainGlobals "range" = some none)
    (z_repr : PySem.W.nsIn K mainGlobals "repr" = some none)
    (z_str : PySem.W.nsIn K mainGlobals "str" = some none)
    : Txt K mg where
  c_MOST_PATTERN := ⟨_, PySem.W.mg_of X G h_MOST_PATTERN, r_MOST_PATTERN⟩
  c_ANY := ⟨_, PySem.W.mg_of X G h_ANY, r_ANY⟩
  c_ONE := ⟨_, PySem.W.mg_of X G h_ONE, r_ONE⟩
  c_SIGN := ⟨_, PySem.W.mg_of X G h_SIGN, r_SIGN⟩
  c_SET := ⟨_, PySem.W.mg_of X G h_SET, r_SET⟩
  c_NO_ITEMS := ⟨_, PySem.W.mg_of X G h_NO_ITEMS, r_NO_ITEMS⟩
  d_items_of := .mk (st := s_items_of) l_items_of c_items_of k_items_of (PySem.W.mg_of X G a_items_of) (fun _ _ _ _ _ _ us hl => match us, hl with | [_], _ => rfl)
  d_set_at := .mk (st := s_set_at) l_set_at c_set_at k_set_at (PySem.W.mg_of X G a_set_at) (fun _ _ _ _ _ _ us hl => match us, hl with | [_, _], _ => rfl)
  d_tokens_of := .mk (st := s_tokens_of) l_tokens_of c_tokens_of k_tokens_of (PySem.W.mg_of X G a_tokens_of) (fun _ _ _ _ _ _ us hl => match us, hl with | [_], _ => rfl)
  d_is_a_pattern := .mk (st := s_is_a_pattern) l_is_a_pattern c_is_a_pattern k_is_a_pattern (PySem.W.mg_of X G a_is_a_pattern) (fun _ _ _ _ _ _ us hl => match us, hl with | [_], _ => rfl)
  d_is_pattern := .mk (st := s_is_pattern) l_is_pattern c_is_pattern k_is_pattern (PySem.W.mg_of X G a_is_pattern) (fun _ _ _ _ _ _ us hl => match us, hl with | [_], _ => rfl)
  d_law_deck := .mk (st := s_law_deck) l_law_deck c_law_deck k_law_deck (PySem.W.mg_of X G a_law_deck) (fun _ _ _ _ _ _ us hl => match us, hl with | [_, _], _ => rfl)
  d_law_draw := .mk (st := s_law_draw) l_law_draw c_law_draw k_law_draw (PySem.W.mg_of X G a_law_draw) (fun _ _ _ _ _ _ us hl => match us, hl with | [_, _], _ => rfl)
  d_law_pattern := .mk (st := s_law_pattern) l_law_pattern c_law_pattern k_law_pattern (PySem.W.mg_of X G a_law_pattern) (fun _ _ _ _ _ _ us hl => match us, hl with | [_, _], _ => rfl)
  d_law_pattern_right := .mk (st := s_law_pattern_right) l_law_pattern_right c_law_pattern_right k_law_pattern_right (PySem.W.mg_of X G a_law_pattern_right) (fun _ _ _ _ _ _ us hl => match us, hl with | [_], _ => rfl)
  d_law_items_right := .mk (st := s_law_items_right) l_law_items_right c_law_items_right k_law_items_right (PySem.W.mg_of X G a_law_items_right) (fun _ _ _ _ _ _ us hl => match us, hl with | [_], _ => rfl)
  d_law_bent := .mk (st := s_law_bent) l_law_bent c_law_bent k_law_bent (PySem.W.mg_of X G a_law_bent) (fun _ _ _ _ _ _ us hl => match us, hl with | [_, _], _ => rfl)
  d_law_right := .mk (st := s_law_right) l_law_right c_law_right k_law_right (PySem.W.mg_of X G a_law_right) (fun _ _ _ _ _ _ us hl => match us, hl with | [_], _ => rfl)
  d_law := .mk (st := s_law) l_law c_law k_law (PySem.W.mg_of X G a_law) (fun _ _ _ _ _ _ us hl => match us, hl with | [_], _ => rfl)
  b_int := PySem.W.mg_none_of X G z_int
  b_isinstance := PySem.W.mg_none_of X G z_isinstance
  b_len := PySem.W.mg_none_of X G z_len
  b_max := PySem.W.mg_none_of X G z_max
  b_min := PySem.W.mg_none_of X G z_min
  b_range := PySem.W.mg_none_of X G z_range
  b_repr := PySem.W.mg_none_of X G z_repr
  b_str := PySem.W.mg_none_of X G z_str
theorem walk {l : PySem.W.OpenLaw} {q : Program} {loose : List Str} {XP : (Str → Option Value) → Heap → Prop} {YP : World → Heap → Prop} {d : DefRec} {K : Params → PySem.W.Frag} (hn : l.most = some 63) (hdf : d.params.defaults = []) (hdn : d.name = "law")
    (hY : ∀ (w : World) (h : Heap), YP w h → (K w.params).In h) (F : ∀ (w : World) (mg : Str → Option Value) (h : Heap), (K w.params).In h → h.Ns mainGlobals mg → Txt (K w.params) mg) :
    PySem.W.WalkO q loose XP YP l.row.toRowW d [] (fun f vs => PySem.call f vs) := by
  refine walk_keeps (n := 63) (k := 7) (x := "script") (sp := fun w => sp1 (Φ_law (K w.params))) hn (by decide) hdf ⟨rfl, by decide, by decide⟩ hY ?_ ?_
  · intro w mg fa h KX G hmg
    have T := F w mg h KX G
    obtain ⟨f, fd, F1, hm, B, KB⟩ := T.d_law
    rw [hdn] at hmg
    obtain rfl : f = fa := Value.ref.inj (Option.some.inj (hm.symm.trans hmg))
    exact ⟨fd, fun s u => KB s [u] rfl, fun base _ _ => ok_law T F1⟩
  · intro w H a ns hl hS
    exact ⟨_, rfl, a, ns, rfl, hS, hl, fun _ => rfl⟩
end Mine
open PySem PySem.W PyProof.Rows
set_option maxRecDepth 100000 in
set_option maxHeartbeats 0 in
theorem PySem.Challenge.cw_wireshell_k25_which_are_patterns_holds : PySem.Challenge.rw_wireshell_k25_which_are_patterns.Holds := by
  w_on; o_law; k_head; (case hw => w_witness2)
  k_fill
  refine Mine.walk (l := PySem.Challenge.rw_wireshell_k25_which_are_patterns) rfl rfl rfl (fun w h Y => PySem.W.kIn_of Y) ?F
  case F =>
    intro w mg h KX G
    refine' Mine.all_mk KX G ?h_MOST_PATTERN ?r_MOST_PATTERN ?h_ANY ?r_ANY ?h_ONE ?r_ONE ?h_SIGN ?r_SIGN ?h_SET ?r_SET ?h_NO_ITEMS ?r_NO_ITEMS ?a_items_of ?l_items_of ?c_items_of ?k_items_of ?a_set_at ?l_set_at ?c_set_at ?k_set_at ?a_tokens_of ?l_tokens_of ?c_tokens_of ?k_tokens_of ?a_is_a_pattern ?l_is_a_pattern ?c_is_a_pattern ?k_is_a_pattern ?a_is_pattern ?l_is_pattern ?c_is_pattern ?k_is_pattern ?a_law_deck ?l_law_deck ?c_law_deck ?k_law_deck ?a_law_draw ?l_law_draw ?c_law_draw ?k_law_draw ?a_law_pattern ?l_law_pattern ?c_law_pattern ?k_law_pattern ?a_law_pattern_right ?l_law_pattern_right ?c_law_pattern_right ?k_law_pattern_right ?a_law_items_right ?l_law_items_right ?c_law_items_right ?k_law_items_right ?a_law_bent ?l_law_bent ?c_law_bent ?k_law_bent ?a_law_right ?l_law_right ?c_law_right ?k_law_right ?a_law ?l_law ?c_law ?k_law ?z_int ?z_isinstance ?z_len ?z_max ?z_min ?z_range ?z_repr ?z_str
    (case h_MOST_PATTERN => k_is); (case r_MOST_PATTERN => exact ⟨_, rfl⟩)
    (case h_ANY => k_is); (case r_ANY => exact ⟨_, rfl⟩)
    (case h_ONE => k_is); (case r_ONE => exact ⟨_, rfl⟩)
    (case h_SIGN => k_is); (case r_SIGN => exact ⟨_, rfl⟩)
    (case h_SET => k_is); (case r_SET => exact ⟨_, rfl⟩)
    (case h_NO_ITEMS => k_is); (case r_NO_ITEMS => exact ⟨_, rfl⟩)
    (case a_items_of => k_is); (case l_items_of => k_is); (case c_items_of => k_is); (case k_items_of => k_is)
    (case a_set_at => k_is); (case l_set_at => k_is); (case c_set_at => k_is); (case k_set_at => k_is)
    (case a_tokens_of => k_is); (case l_tokens_of => k_is); (case c_tokens_of => k_is); (case k_tokens_of => k_is)
    (case a_is_a_pattern => k_is); (case l_is_a_pattern => k_is); (case c_is_a_pattern => k_is); (case k_is_a_pattern => k_is)
    (case a_is_pattern => k_is); (case l_is_pattern => k_is); (case c_is_pattern => k_is); (case k_is_pattern => k_is)
    (case a_law_deck => k_is); (case l_law_deck => k_is); (case c_law_deck => k_is); (case k_law_deck => k_is)
    (case a_law_draw => k_is); (case l_law_draw => k_is); (case c_law_draw => k_is); (case k_law_draw => k_is)
    (case a_law_pattern => k_is); (case l_law_pattern => k_is); (case c_law_pattern => k_is); (case k_law_pattern => k_is)
    (case a_law_pattern_right => k_is); (case l_law_pattern_right => k_is); (case c_law_pattern_right => k_is); (case k_law_pattern_right => k_is)
    (case a_law_items_right => k_is); (case l_law_items_right => k_is); (case c_law_items_right => k_is); (case k_law_items_right => k_is)
    (case a_law_bent => k_is); (case l_law_bent => k_is); (case c_law_bent => k_is); (case k_law_bent => k_is)
    (case a_law_right => k_is); (case l_law_right => k_is); (case c_law_right => k_is); (case k_law_right => k_is)
    (case a_law => k_is); (case l_law => k_is); (case c_law => k_is); (case k_law => k_is)
    (case z_int => k_is)
    (case z_isinstance => k_is)
    (case z_len => k_is)
    (case z_max => k_is)
    (case z_min => k_is)
    (case z_range => k_is)
    (case z_repr => k_is)
    (case z_str => k_is)
#print axioms PySem.Challenge.cw_wireshell_k25_which_are_patterns_holds

