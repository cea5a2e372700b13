import PyProof.Rows.All
import Wide.All
import OpenK.AllK
import Wide.FinOn
import HandS.ForMost
import HandS.IsInst
import HandS.Walk
import HandS.Style
import HandS.Wide
import HandS.StrMore
import HandS.TryOnly
import HandS.TryMany
import HandS.More
import PySem.Challenge.RW_wireshell_k02_normal_forms
set_option Elab.async false
set_option maxRecDepth 100000
set_option maxHeartbeats 4000000
set_option linter.all false
/-! ## The prelude: promises of defs under which no repr is under way, combined rules (one a construct, whatever the kinds), readings step by step -/
namespace Mine
open PySem PySem.Spec PyProof.Rows L2
set_option linter.all false
abbrev St := L2.St

/-! ### names of the top -/
/-- a constant of the top -/
def GK (mg : Str → Option Value) (x : Str) (v : V) : Prop := ∃ u, mg x = some u ∧ RelV v u
theorem pe_gk {X : Cx} {x : Str} {v : V} {pos : Pos} (hg : Gl X x) (h : GK X.mg x v) (hd : (x == ("__debug__" : Str)) = false := by decide) : PE X (.Name x pos) (tC v) := by
  obtain ⟨u, hm, r⟩ := h
  exact pe_glob hg hm r hd

/-! ### a def's promise where no repr is under way -/
/-- room for k calls, no repr under way -/
structure Rm (k : Nat) (A : Around) : Prop where
  r : Room k A
  g : A.guards = some []
theorem Rm.mono {j k : Nat} {A : Around} (h : Rm k A) (l : j ≤ k) : Rm j A := ⟨h.r.mono l, h.g⟩
theorem Rm.down {k : Nat} {A : Around} (h : Rm (k + 1) A) (env : Env) : Rm k (A.deeper env) := ⟨h.r.deeper env, h.g⟩
theorem Rm.hu {k : Nat} {A : Around} (h : Rm k A) : A.units + 1 < cLine := hu_of h.r
theorem Rm.u65 {k : Nat} {A : Around} (h : Rm k A) : A.units + 65 < cLine := by
  have := h.r.un
  omega
/-- the promise itself -/
def Keeps (P : Program) (w : World) (K : PySem.W.Frag) (mg : Str → Option Value) (base : Heap) (CX : CXT) (k : Nat) (f : Addr) (fd : FuncData) (ps : List Str) (sp : Sp) : Prop :=
  (∀ vs H Q E, sp vs H Q E → vs.length = ps.length) ∧
  ∀ (A : Around) (outer : List Env) (s : Shared) (H : Hp) (args : Args) (us : List Value) (vs : List V) (Q : VK) (E : XK),
    Rm k A → Env0 P w K mg base A outer s H → BindsTo s fd args (ps.zip us) → Vals vs us → sp vs H Q E →
      codeAny (model P w) A (.call (.ref f) args) (CR CX outer P w H s Q E) s
/-- a def of the text keeps it, if its body's reading holds at each entry -/
theorem keeps_of {CX : CXT} {P : Program} {w : World} {K : PySem.W.Frag} {mg : Str → Option Value} {base : Heap} {k : Nat} {x qual : Str} {st : Stmt} {f : Addr} {fd : FuncData} {N ps : List Str} {sp : Sp}
    (F : Fun K x qual st f fd) (S : FnScope N ps (defScope st)) (len : ∀ vs H Q E, sp vs H Q E → vs.length = ps.length)
    (body : ∀ (cdv : Value) (A : Around) (outer : List Env) (s : Shared) (H : Hp) (vs : List V) (Q : VK) (E : XK), Rm k (A.deeper (envOfC qual (defScope st) s.heap.objs.size f cdv)) → sp vs H Q E →
      ∃ t, PSs (cxOf CX P w K mg base N qual (defScope st) f cdv A outer s H E) (defBody st) t ∧ t { nx := fun _ H' => Q .non H', rt := Q } (start N vs) H) :
    Keeps P w K mg base CX (k + 1) f fd ps sp := by
  obtain ⟨_, _, kV, doc, pm, an, cdv, ct, _, rfl, lk, hcd⟩ := F.ex
  refine And.intro len ?_
  intro A outer s H args us vs Q E hr e0 hb rv hsp
  have kp : ∀ b o, base.get? b = some o → s.heap.get? b = some o := fun b o e => (e0.bs b o e).1
  have inK : K.In s.heap := PySem.W.Frag.In.keeps e0.mod.kin kp
  have kinds : ∀ q ∈ ps.zip us, (defScope st).names.lookup q.1 = some .local ∨
      ((defScope st).names.lookup q.1 = some .cell ∧ ((cellsFrom (s.heap.objs.size + 1) (defScope st).names []).lookup q.1).isSome = true) := by
    intro q hq
    have hmem := (List.of_mem_zip (show (q.1, q.2) ∈ ps.zip us from hq)).1
    cases S.par q.1 hmem with
    | inl h => exact Or.inl h
    | inr h => exact Or.inr ⟨h, PySem.W.cellsFrom_some _ _ _ (Or.inl h)⟩
  refine codeAny_call_function hr.r.depth (inK _ _ lk) rfl S.co S.gen rfl (PySem.W.codeRec_of inK hcd) ?_
  refine hb _ _ _ _ ?_
  refine wpAny_newFunctionEnv_cells S.kind kinds ?_
  rintro env rfl s1 x1
  refine And.intro (Heap.NoLimit.keeps e0.mod.nolimit fun b o e => x1.toInCall.keep b o (kp b o e)) ?_
  refine codeAny_func ?_
  obtain ⟨t, pt, red⟩ := body cdv A outer s H vs Q E (hr.down _) hsp
  have I0 := inv_start (CX := CX) (E := E) (K := K) (mg := mg) S hr.r.hd e0 (len vs H Q E hsp) rv x1
  refine wpAny_mono (pt.run [] s1 _ H _ I0 red) ?_ (fun _ _ h => h)
  intro fl s2 hfl
  cases fl with
  | ret u =>
    obtain ⟨v, σ2, H2, J, r2, q2⟩ := hfl
    exact ⟨v, H2, J.os, J.bare, J.base, J.hok, r2, q2⟩
  | next =>
    obtain ⟨σ2, H2, J, q2⟩ := hfl
    exact ⟨V.non, H2, J.os, J.bare, J.base, J.hok, rfl, q2⟩
  | brk =>
    obtain ⟨σ2, H2, J, q2⟩ := hfl
    exact False.elim q2
  | cont =>
    obtain ⟨σ2, H2, J, q2⟩ := hfl
    exact False.elim q2

/-- where nothing that is raised leaves it -/
theorem keeps0_of {P : Program} {w : World} {K : PySem.W.Frag} {mg : Str → Option Value} {base : Heap} {k : Nat} {x qual : Str} {st : Stmt} {f : Addr} {fd : FuncData} {N ps : List Str} {sp : Sp}
    (F : Fun K x qual st f fd) (S : FnScope N ps (defScope st)) (len : ∀ vs H Q E, sp vs H Q E → vs.length = ps.length)
    (body : ∀ (cdv : Value) (A : Around) (outer : List Env) (s : Shared) (H : Hp) (vs : List V) (Q : VK) (E : XK), Rm k (A.deeper (envOfC qual (defScope st) s.heap.objs.size f cdv)) → sp vs H Q E →
      ∃ t, PSs (cxOf CX0 P w K mg base N qual (defScope st) f cdv A outer s H E).nox (defBody st) t ∧ t { nx := fun _ H' => Q .non H', rt := Q } (start N vs) H) :
    Keeps P w K mg base CX0 (k + 1) f fd ps sp := by
  refine keeps_of F S len ?_
  intro cdv A outer s H vs Q E hr hsp
  obtain ⟨t, h1, h2⟩ := body cdv A outer s H vs Q E hr hsp
  exact ⟨t, h1.nox, h2⟩

/-! ### defs of the top, by name -/
/-- a def of the top -/
def DefAt (K : PySem.W.Frag) (mg : Str → Option Value) (x : Str) (ps : List Str) (st : Stmt) : Prop :=
  ∃ (f : Addr) (fd : FuncData), Fun K x x st f fd ∧ mg x = some (.ref f) ∧ Binds K fd ps [] ∧ ∀ (s : Shared) (us : List Value), us.length = ps.length → BindsTo s fd ⟨us, []⟩ (ps.zip us)
theorem DefAt.mk {K : PySem.W.Frag} {mg : Str → Option Value} {x : Str} {ps : List Str} {st : Stmt} {f : Addr} {oc : Value} {od an : Option Addr} {osl : Array (Option Value)} {kV doc pm cdv ct : Value}
    (l : K.lookup f = some ⟨oc, od, .func (PySem.W.fnOf x x (defArgs st) (defBody st) (defScope st) .none kV doc pm an cdv ct), osl⟩) (c : PySem.W.codeIn K cdv x = true) (k : PySem.W.keepIn K (.ref f) = true) (hm : mg x = some (.ref f))
    (b : ∀ (kV doc pm : Value) (an : Option Addr) (cdv ct : Value) (us : List Value), us.length = ps.length → bindArgs (PySem.W.fnOf x x (defArgs st) (defBody st) (defScope st) .none kV doc pm an cdv ct) ⟨us, []⟩ = pure (ps.zip us)) : DefAt K mg x ps st := by
  have F := fun_mk (st := st) l c k
  exact ⟨f, _, F, hm, F.binds b, fun s us hl => .of_eq (b _ _ _ _ _ _ us hl)⟩
/-- a def of the top that keeps a promise -/
def Cal (P : Program) (w : World) (K : PySem.W.Frag) (mg : Str → Option Value) (base : Heap) (CX : CXT) (k : Nat) (x : Str) (st : Stmt) (ps : List Str) (sp : Sp) : Prop :=
  ∃ (f : Addr) (fd : FuncData), Fun K x x st f fd ∧ mg x = some (.ref f) ∧ Binds K fd ps [] ∧ Keeps P w K mg base CX k f fd ps sp
theorem cal {P : Program} {w : World} {K : PySem.W.Frag} {mg : Str → Option Value} {base : Heap} {CX : CXT} {k : Nat} {x : Str} {st : Stmt} {ps : List Str} {sp : Sp} (D : DefAt K mg x ps st)
    (h : ∀ {f : Addr} {fd : FuncData}, Fun K x x st f fd → Keeps P w K mg base CX k f fd ps sp) : Cal P w K mg base CX k x st ps sp := by
  obtain ⟨f, fd, F, hm, B, _⟩ := D
  exact ⟨f, fd, F, hm, B, h F⟩
section
variable {X : Cx} {CX : CXT} {k : Nat} {ps : List Str} {sp : Sp} {E : XK} {x : Str} {st : Stmt} {p pos : Pos} {e : Expr} {es : List Expr} {t tk : TA} {kws : List Keyword}
/-- the callee runs, whatever way its arguments were bound -/
theorem run_keeps {pins : List (Addr × Obj)} {σ : St} {H : Hp} {s : Shared} {Q : VK} {args : List Value} {kwargs : List (Str × Value)} {us : List Value} {vs : List V} {f : Addr} {fd : FuncData} (O : Keeps X.prog X.w X.K X.mg X.base CX k f fd ps sp)
    (hr : Rm k X.A) (hx : Passes CX X E) (I : Inv X pins σ H s) (b : BindsTo s fd ⟨args, kwargs⟩ (ps.zip us)) (r : Vals vs us) (h : sp vs H Q E) :
    wpAny (model X.prog X.w) X.A (call (.ref f) args kwargs) (EP X pins σ Q) X.xe s := by
  have run := O.2 X.A X.stack s H ⟨args, kwargs⟩ us vs Q E hr I.env0 b r h
  refine wpAny_call (codeAny_mono run ?_)
  intro res s2 hres
  match res, hres with
  | .error e, hres => exact hx pins σ H s e s2 I hres
  | .ok (.ret u), hres => exact I.after hres
theorem pe_cal (C : Cal X.prog X.w X.K X.mg X.base CX k x st ps sp) (hr : Rm k X.A) (hg : Gl X x) (hx : Passes CX X E) (ha : PA X (e :: es) t)
    (hdb : (x == ("__debug__" : Str)) = false := by decide) (he : starEach (e :: es) X.env = (false, eval e X.env) :: starEach es X.env := by rfl) (hpl : (backTo pos (starEach es X.env)).any (·.1) = false := by rfl) :
    PE X (.Call (.Name x p) (e :: es) [] pos) (tCall sp [] E t) := by
  obtain ⟨f, fd, F, hm, B, O⟩ := C
  constructor
  intro pins s σ H Q I h
  refine wpAny_Call_Name_kw (ld_glob I hg hm ?_ hdb)
  refine PySem.W.callWith_K (h₀ := X.base) I.ok.mod.kin F.kp (thn (ha.run pos pins s σ H _ I h) ?_) he hpl
  rintro us s1 ⟨vs, H1, I1, r, q⟩
  refine And.intro I1.kIn ?_
  have q' : sp vs H1 Q E := by
    have q0 : sp (vs ++ []) H1 Q E := q
    rwa [List.append_nil] at q0
  have hl : (us ++ []).length = ps.length := by
    rw [List.append_nil, ← Vals.length r]
    exact O.1 _ _ _ _ q'
  have b := B s1 us I1.kIn hl
  rw [List.append_nil] at b
  exact run_keeps O hr hx I1 b r q'
theorem pe_cal0 (C : Cal X.prog X.w X.K X.mg X.base CX k x st ps sp) (hr : Rm k X.A) (hg : Gl X x) (hx : Passes CX X E)
    (hdb : (x == ("__debug__" : Str)) = false := by decide) : PE X (.Call (.Name x p) [] [] pos) (tCall sp [] E tNil) := by
  obtain ⟨f, fd, F, hm, B, O⟩ := C
  constructor
  intro pins s σ H Q I h
  have q' : sp [] H Q E := h
  refine wpAny_Call_Name_kw (ld_glob I hg hm ?_ hdb)
  have b := B s [] I.kIn (show ([] ++ [] : List Value).length = ps.length from O.1 _ _ _ _ q')
  exact PySem.W.callWith_K0 I.kIn F.kp (run_keeps (us := []) O hr hx I b .nil q')
/-- positional values, then the keywords' values by their places -/
def gK {α : Type} (pm : List Nat) (us ws : List α) : List α := us ++ pm.filterMap fun i => ws[i]?
theorem gK_rel {pm : List Nat} {vs : List V} {us : List Value} {zs : List V} {ws : List Value} (r : Vals vs us) (q : Vals zs ws) : Vals (gK pm vs zs) (gK pm us ws) := by
  unfold gK
  refine Vals.append r ?_
  induction pm with
  | nil => exact .nil
  | cons i pm ih =>
    rw [List.filterMap_cons, List.filterMap_cons]
    cases e : zs[i]? with
    | none => rw [Vals.none_of q e]; exact ih
    | some z =>
      obtain ⟨u, e1, e2⟩ := Vals.get q e
      rw [e1]
      exact .cons e2 ih
def KwOk (x : Str) (st : Stmt) (ps : List Str) (n : Nat) (ks : List Str) (pm : List Nat) : Prop :=
  ∀ (kV doc pmv : Value) (an : Option Addr) (cdv ct : Value) (us ws : List Value), us.length = n → ws.length = ks.length →
    bindArgs (PySem.W.fnOf x x (defArgs st) (defBody st) (defScope st) .none kV doc pmv an cdv ct) ⟨us, ks.zip ws⟩ = pure (ps.zip (gK pm us ws))
def tCalK (n m : Nat) (pm : List Nat) (sp : Sp) (E : XK) (t tk : TA) : TE := fun σ H Q => t σ H fun vs H1 => tk σ H1 fun zs H2 => vs.length = n ∧ zs.length = m ∧ sp (gK pm vs zs) H2 Q E
theorem kw_binds {K : PySem.W.Frag} {f : Addr} {fd : FuncData} {n : Nat} {ks : List Str} {pm : List Nat} (F : Fun K x x st f fd) (hb : KwOk x st ps n ks pm) (s : Shared) {us ws : List Value} (h1 : us.length = n) (h2 : ws.length = ks.length) :
    BindsTo s fd ⟨us, ks.zip ws⟩ (ps.zip (gK pm us ws)) := by
  obtain ⟨_, _, kV, doc, pmv, an, cdv, ct, _, rfl, _, _⟩ := F.ex
  exact .of_eq (hb kV doc pmv an cdv ct us ws h1 h2)
theorem pe_calK {n : Nat} {ks : List Str} {pm : List Nat} (C : Cal X.prog X.w X.K X.mg X.base CX k x st ps sp) (hr : Rm k X.A) (hg : Gl X x) (hb : KwOk x st ps n ks pm) (hx : Passes CX X E)
    (ha : PA X (e :: es) t) (hkw : PK X kws tk) (hall : (backToKw pos (keywordEach kws X.env)).all (·.1.isSome) = true := by rfl) (hks : (backToKw pos (keywordEach kws X.env)).filterMap (·.1) = ks := by rfl)
    (hdb : (x == ("__debug__" : Str)) = false := by decide) (he : starEach (e :: es) X.env = (false, eval e X.env) :: starEach es X.env := by rfl)
    (hpl : ((backTo pos (starEach (e :: es) X.env)).any (·.1) || (backToKw pos (keywordEach kws X.env)).any (·.1.isNone)) = false := by rfl) :
    PE X (.Call (.Name x p) (e :: es) kws pos) (tCalK n ks.length pm sp E t tk) := by
  obtain ⟨f, fd, F, hm, B, O⟩ := C
  constructor
  intro pins s σ H Q I h
  refine wpAny_Call_Name_kw (ld_glob I hg hm ?_ hdb)
  refine PySem.W.callWith_KW (h₀ := X.base) I.ok.mod.kin F.kp hall (thn (ha.run pos pins s σ H _ I h) ?_) hpl he
  rintro us s1 ⟨vs, H1, I1, r, q⟩
  refine thn (hkw.run pos pins s1 σ H1 _ I1 q) ?_
  rintro ws s2 ⟨zs, H2, I2, rz, l1, l2, q2⟩
  refine And.intro I2.kIn ?_
  rw [hks]
  exact run_keeps O hr hx I2 (kw_binds F hb s2 (by have := Vals.length r; simpa [this] using l1) (by rw [← Vals.length rz]; exact l2)) (gK_rel r rz) q2
theorem pe_calK0 {ks : List Str} {pm : List Nat} (C : Cal X.prog X.w X.K X.mg X.base CX k x st ps sp) (hr : Rm k X.A) (hg : Gl X x) (hb : KwOk x st ps 0 ks pm) (hx : Passes CX X E)
    (hkw : PK X kws tk) (hall : (backToKw pos (keywordEach kws X.env)).all (·.1.isSome) = true := by rfl) (hks : (backToKw pos (keywordEach kws X.env)).filterMap (·.1) = ks := by rfl)
    (hdb : (x == ("__debug__" : Str)) = false := by decide)
    (hpl : ((backTo pos (starEach [] X.env)).any (·.1) || (backToKw pos (keywordEach kws X.env)).any (·.1.isNone)) = false := by rfl) :
    PE X (.Call (.Name x p) [] kws pos) (tCalK 0 ks.length pm sp E tNil tk) := by
  obtain ⟨f, fd, F, hm, B, O⟩ := C
  constructor
  intro pins s σ H Q I h
  refine wpAny_Call_Name_kw (ld_glob I hg hm ?_ hdb)
  refine PySem.W.callWith_KW0 (h₀ := X.base) I.ok.mod.kin F.kp hall ?_ hpl
  have h' : tk σ H fun zs H2 => ([] : List V).length = 0 ∧ zs.length = ks.length ∧ sp (gK pm [] zs) H2 Q E := h
  refine thn (hkw.run pos pins s σ H _ I h') ?_
  rintro ws s2 ⟨zs, H2, I2, rz, l1, l2, q2⟩
  refine And.intro I2.kIn ?_
  rw [hks]
  exact run_keeps (us := gK pm [] ws) O hr hx I2 (kw_binds F hb s2 (us := []) rfl (by rw [← Vals.length rz]; exact l2)) (gK_rel .nil rz) q2
end
/-! ### ways that meet again: what follows is shown once -/
def tMeet (t u : TS) : TS := fun D σ H => ∃ M : St → Hp → Prop, t { D with nx := M } σ H ∧ ∀ σ' H', M σ' H' → u D σ' H'
theorem pss_meet {X : Cx} {st : Stmt} {rest : List Stmt} {t u : TS} (h1 : PS X st t) (h2 : PSs X rest u) : PSs X (st :: rest) (tMeet t u) := by
  constructor
  rintro pins s σ H D I ⟨M, hM, hu⟩
  have first := h1.run pins s σ H { D with nx := M } I hM
  refine wpAny_execs_cons (thn first ?_)
  intro f s1 q
  match f, q with
  | .next, ⟨σ', H', I', q⟩ => exact h2.run pins s1 σ' H' D I' (hu σ' H' q)
  | .ret v, q => exact q
  | .brk, q => exact q
  | .cont, q => exact q
/-! ### promises by the number of parameters -/
abbrev sp1 (Φ : V → Hp → VK → Prop) : Sp := fun vs H Q _ => ∃ a, vs = [a] ∧ Φ a H Q
abbrev sp2 (Φ : V → V → Hp → VK → Prop) : Sp := fun vs H Q _ => ∃ a b, vs = [a, b] ∧ Φ a b H Q
abbrev sp3 (Φ : V → V → V → Hp → VK → Prop) : Sp := fun vs H Q _ => ∃ a b c, vs = [a, b, c] ∧ Φ a b c H Q
abbrev sp4 (Φ : V → V → V → V → Hp → VK → Prop) : Sp := fun vs H Q _ => ∃ a b c d, vs = [a, b, c, d] ∧ Φ a b c d H Q
abbrev sp5 (Φ : V → V → V → V → V → Hp → VK → Prop) : Sp := fun vs H Q _ => ∃ a b c d e, vs = [a, b, c, d, e] ∧ Φ a b c d e H Q
abbrev sp6 (Φ : V → V → V → V → V → V → Hp → VK → Prop) : Sp := fun vs H Q _ => ∃ a b c d e f, vs = [a, b, c, d, e, f] ∧ Φ a b c d e f H Q

/-! ### the law's call -/
theorem law_keeps {P : Program} {w : World} {K : PySem.W.Frag} {mg mb : Str → Option Value} {k : Nat} {fa a : Addr} {fd : FuncData} {x : Str} {sp : Sp} {s₁ : Shared} {vs : List Value} {ns : List Int}
    (kin : K.In s₁.heap) (gns : s₁.heap.Ns mainGlobals mg) (bns : s₁.heap.Ns builtinsNs mb) (bb : ∀ x : Str, x ≠ "__name__" → mb x = bootBuiltins x) (nl : s₁.heap.NoLimit) (ng : s₁.gens = #[])
    (obj : s₁.heap.get? a = some { cls := .type "list", data := .seq vs.toArray }) (his : IntsAre vs ns) (short : ns.length ≤ sizeLine) (room : Room k callerA)
    (F : ∀ base : Heap, K.In base → base.Ns mainGlobals mg → Keeps P w K mg base CX0 k fa fd [x] sp) (bind : ∀ (s : Shared) (u : Value), BindsTo s fd ⟨[u], []⟩ [(x, u)])
    (hsp : ∀ H : Hp, SqL K H a (ns.map V.int) → sp [.ref a] H (fun v _ => v = .bl true) fun _ _ _ => False) :
    codeAny (model P w) callerA (.call (.ref fa) ⟨[.ref a], []⟩) (fun r s' => r = .ok (.ret (.bool true)) ∧ OldK s₁.heap s'.heap ∧ s'.os = s₁.os ∧ AllBare s'.gens) s₁ := by
  have rv := vals_ints his
  have hlen := his.length
  let o₁ : Obj := { cls := .type "list", data := .seq vs.toArray }
  let H₁ : Hp := fun b => if b = a ∧ K.lookup a = none then some (.frz o₁ (.lst (ns.map V.int))) else none
  have hit : ∀ {b u}, H₁ b = some u → (b = a ∧ K.lookup a = none) ∧ u = .frz o₁ (.lst (ns.map V.int)) := by
    intro b u e
    by_cases c : b = a ∧ K.lookup a = none
    · rw [show H₁ b = _ from if_pos c] at e
      exact ⟨c, (Option.some.inj e).symm⟩
    · rw [show H₁ b = _ from if_neg c] at e
      cases e
  have seq : SqL K H₁ a (ns.map V.int) := by
    cases lk : K.lookup a with
    | none => exact Or.inl (Or.inr ⟨o₁, if_pos ⟨rfl, lk⟩⟩)
    | some o =>
      have e := (kin a o lk).symm.trans obj
      cases Option.some.inj e
      exact Or.inr ⟨_, vs.toArray, _, lk, rfl, rfl, rfl, (by rw [List.size_toArray, hlen]; exact short), (by simpa using rv)⟩
  have hok : HOk P w H₁ s₁.heap := by
    intro b u e
    obtain ⟨⟨rfl, _⟩, rfl⟩ := hit e
    exact ⟨obj, (by rw [List.length_map]; exact short), vs, _, rv, obj⟩
  have hid : ∀ {b o}, s₁.heap.get? b = some o → H₁ b = none → (hidT s₁.heap H₁).get? b = some o := fun e n => hidT_get e n
  have free : ∀ {b o es ep}, s₁.heap.get? b = some o → o.data = .dict es ep → H₁ b = none := by
    intro b o es ep e d
    cases q : H₁ b with
    | none => rfl
    | some u =>
      obtain ⟨⟨rfl, _⟩, _⟩ := hit q
      rw [obj] at e
      cases e
      cases d
  have nsOf : ∀ {b : Addr} {m : Str → Option Value}, s₁.heap.Ns b m → (hidT s₁.heap H₁).Ns b m := by
    rintro b m ⟨o, es, ep, e, d, r⟩
    exact ⟨o, es, ep, hid e (free e d), d, r⟩
  have kb : K.In (hidT s₁.heap H₁) := by
    intro b o e
    refine hid (kin b o e) ?_
    cases q : H₁ b with
    | none => rfl
    | some u =>
      obtain ⟨⟨rfl, n⟩, _⟩ := hit q
      rw [n] at e
      cases e
  have md : Mod K mg (hidT s₁.heap H₁) := by
    obtain ⟨mc, l1, l2⟩ := nl
    exact ⟨kb, nsOf gns, ⟨mb, nsOf bns, bb⟩, ⟨mc, nsOf l1, l2⟩⟩
  have e0 : Env0 P w K mg (hidT s₁.heap H₁) callerA [] s₁ H₁ :=
    ⟨rfl, md, fun _ _ e => of_hidT e, Nat.le_of_eq (hidT_size _ _), trivial, fun b hb => absurd (show b ∈ ([] : List Addr) from hb) List.not_mem_nil, hok, .of_eq ng⟩
  have run := (F _ kb (nsOf gns)).2 callerA [] s₁ H₁ ⟨[.ref a], []⟩ [.ref a] [.ref a] _ _ ⟨room, rfl⟩ e0 (bind s₁ (.ref a)) (.cons rfl .nil) (hsp H₁ seq)
  refine codeAny_mono run ?_
  intro res s2 hres
  match res, hres with
  | .error e, hres => exact hres.elim
  | .ok (.ret u), hres =>
    obtain ⟨v, H2, os, bare, un, hok2, rr, q⟩ := hres
    cases (show v = .bl true from q)
    cases (show u = Value.bool true from rr)
    refine ⟨rfl, OldK.of_keep ?_, os, bare⟩
    intro b o e
    cases q2 : H₁ b with
    | none => exact un.keep b o e q2 (fun z => absurd (show b ∈ ([] : List Addr) from z) List.not_mem_nil) List.not_mem_nil
    | some z =>
      have z2 := (hit q2).2
      subst z2
      have e1 := (hok b _ q2).1
      have e2 := (hok2 b _ (un.frzs b _ _ q2)).1
      rw [e] at e1
      cases Option.some.inj e1
      exact e2
/-- the goal that the head leaves, from the law's promise -/
theorem walk_keeps {l : PySem.W.OpenLaw} {n k : Nat} {q : Program} {loose : List Str} {XP : (Str → Option Value) → Heap → Prop} {YP : World → Heap → Prop} {d : DefRec} {K : Params → PySem.W.Frag} {sp : World → Sp} {x : Str}
    (hn : l.most = some n) (hn2 : n ≤ sizeLine) (hdf : d.params.defaults = []) (hr : Room k callerA) (hY : ∀ (w : World) (h : Heap), YP w h → (K w.params).In h)
    (F : ∀ (w : World) (mg : Str → Option Value) (fa : Addr) (h : Heap), (K w.params).In h → h.Ns mainGlobals mg → mg d.name = some (.ref fa) →
      ∃ fd : FuncData, (∀ (s : Shared) (u : Value), BindsTo s fd ⟨[u], []⟩ [(x, u)]) ∧ ∀ base : Heap, (K w.params).In base → base.Ns mainGlobals mg → Keeps l.prog w (K w.params) mg base CX0 k fa fd [x] (sp w))
    (hsp : ∀ (w : World) (H : Hp) (a : Addr) (ns : List Int), ns.length ≤ n → SqL (K w.params) H a (ns.map V.int) → sp w [.ref a] H (fun v _ => v = .bl true) fun _ _ _ => False) :
    PySem.W.WalkO q loose XP YP l.row.toRowW d [] (fun f vs => PySem.call f vs) := by
  refine Att.attach_call hn hdf ?_
  intro w s₀ s₁ mg mb fa o pm cd doc a vs ns G Y _ _ _ hmg obj his hl ng
  obtain ⟨fd, hb, hF⟩ := F w mg fa _ (hY w _ Y) G.T.g hmg
  exact law_keeps (hY w _ Y) G.T.g G.T.b G.T.builtins G.T.nolimit ng obj his (Nat.le_trans hl hn2) hr hF hb fun H hS => hsp w H a ns hl hS
end Mine

/-! ## Operators whatever the kinds -/
namespace Mine
open PySem PySem.Spec PyProof.Rows L2
set_option linter.all false
section
variable {X : Cx}
/-- lists put together, each whichever stands -/
def rCatS (K : PySem.W.Frag) : R2 := fun x y H Q => ∃ l b xs zs, x = .ref l ∧ y = .ref b ∧ SqL K H l xs ∧ SqL K H b zs ∧ xs.length + zs.length ≤ sizeLine ∧ ∀ p, H p = none → Q (.ref p) (upd H p (.lst (xs ++ zs)))
theorem op_catS : OpR X (binaryOp .Add) (rCatS X.K) := by
  intro pins s σ H x y v u Q I rx ry h
  obtain ⟨l, b, xs, zs, rfl, rfl, h1, h2, hz, q⟩ := h
  cases rx
  cases ry
  obtain ⟨its, r, p, _⟩ := I.list h1
  obtain ⟨its2, r2, p2, _⟩ := I.list h2
  obtain ⟨⟨cls, dd, data, sl⟩, ho, hc, n, hd⟩ := p.isList
  obtain ⟨⟨cls2, dd2, data2, sl2⟩, ho2, hc2, n2, hd2⟩ := p2.isList
  simp only at hc hd hc2 hd2
  subst hc hd hc2 hd2
  have lx := r.length
  have ly := r2.length
  have hs : its.toArray.size + its2.toArray.size ≤ sizeLine := by rw [List.size_toArray, List.size_toArray]; omega
  have e : its.toArray ++ its2.toArray = (its ++ its2).toArray := by simp
  refine concat_meets ⟨_, ho, rfl⟩ ⟨_, ho2, rfl⟩ noFill_list_add seq_list_add PySem.F.slot_list_add PySem.F.entry_list_add (PySem.F.args_list_add_2 _ _) (list_addW l b its.toArray its2.toArray n n2 dd dd2 sl sl2 hs) ⟨ho, ho2, ?_⟩
  rw [e]
  exact ⟨.ref _, _, I.lnew (t' := s.toks) (r.append r2) (by rw [List.length_append]; omega), rfl, q _ I.fresh⟩
def xAdd (K : PySem.W.Frag) : R2 := fun x y H Q => match x, y with
  | .int i, .int j => Q (.int (i + j)) H
  | .str a, .str b => a.length + b.length ≤ sizeLine ∧ Q (.str (a ++ b)) H
  | .ref a, .ref b => rCatS K (.ref a) (.ref b) H Q ∨ rCatT K (.ref a) (.ref b) H Q
  | _, _ => False
theorem oAdd₀ : OpR X (binaryOp .Add) (xAdd X.K) := by
  intro pins s σ H x y v u Q I rx ry h
  cases x <;> cases y <;> first
    | exact False.elim h
    | exact op_add pins s σ H _ _ v u Q I rx ry ⟨_, _, rfl, rfl, h⟩
    | exact op_add_str pins s σ H _ _ v u Q I rx ry ⟨_, _, rfl, rfl, h⟩
    | exact (OpR.or op_catS op_catT) pins s σ H _ _ v u Q I rx ry h
def xSub : R2 := fun x y H Q => match x, y with
  | .int i, .int j => Q (.int (i - j)) H
  | _, _ => False
theorem oSub : OpR X (binaryOp .Sub) xSub := by
  intro pins s σ H x y v u Q I rx ry h
  cases x <;> cases y <;> first
    | exact False.elim h
    | exact op_sub pins s σ H _ _ v u Q I rx ry ⟨_, _, rfl, rfl, h⟩
theorem mulI : OpR X (binaryOp .Mult) (rI IntMulOk fun i j => .int (i * j)) := opI fun _ _ _ _ _ _ _ hc q => mul_int q hc
theorem mulS : OpR X (binaryOp .Mult) (fun x y H Q => ∃ a k, x = .str a ∧ y = .int k ∧ MulOk a k ∧ Q (.str (Txt.mul a k)) H) := by
  intro pins s σ H x y v u Q I rx ry h
  obtain ⟨a, k, rfl, rfl, ok, q⟩ := h
  obtain ⟨t, rfl⟩ := rx
  obtain ⟨t', rfl⟩ := ry
  exact SB.mul ok fun t2 k2 => ⟨.str _, H, I.tok k2, ⟨_, rfl⟩, q⟩
def xMul (K : PySem.W.Frag) : R2 := fun x y H Q => match x, y with
  | .int i, .int j => IntMulOk i j ∧ Q (.int (i * j)) H
  | .str a, .int k => MulOk a k ∧ Q (.str (Txt.mul a k)) H
  | .ref a, .int k => rRep (.ref a) (.int k) H Q
  | _, _ => False
theorem oMul₀ : OpR X (binaryOp .Mult) (xMul X.K) := by
  intro pins s σ H x y v u Q I rx ry h
  cases x <;> cases y <;> first
    | exact False.elim h
    | exact mulI pins s σ H _ _ v u Q I rx ry ⟨_, _, rfl, rfl, h⟩
    | exact mulS pins s σ H _ _ v u Q I rx ry ⟨_, _, rfl, rfl, h⟩
    | exact op_rep pins s σ H _ _ v u Q I rx ry h
def xMod : R2 := fun x y H Q => match x, y with
  | .int i, .int j => 0 < j ∧ Q (.int (i % j)) H
  | _, _ => False
theorem oMod : OpR X (binaryOp .Mod) xMod := by
  intro pins s σ H x y v u Q I rx ry h
  cases x <;> cases y <;> first
    | exact False.elim h
    | exact op_mod pins s σ H _ _ v u Q I rx ry ⟨_, _, rfl, rfl, h⟩
def xDiv : R2 := fun x y H Q => match x, y with
  | .int i, .int j => CDivW i j ∧ Q (.int (i / j)) H
  | _, _ => False
theorem oDiv : OpR X (binaryOp .FloorDiv) xDiv := by
  intro pins s σ H x y v u Q I rx ry h
  cases x <;> cases y <;> first
    | exact False.elim h
    | exact op_fdivW pins s σ H _ _ v u Q I rx ry ⟨_, _, rfl, rfl, h⟩
def PowOk (i j : Int) : Prop := 0 ≤ j ∧ (Builtin.Int.intBits i : Int) * j ≤ 2 ^ 27
def xPow : R2 := fun x y H Q => match x, y with
  | .int i, .int j => PowOk i j ∧ Q (.int (i ^ j.toNat)) H
  | _, _ => False
theorem powI : OpR X (binaryOp .Pow) (rI PowOk fun i j => .int (i ^ j.toNat)) := opI fun _ _ _ _ _ _ _ hc q => pow_int hc.1 hc.2 q
theorem oPow : OpR X (binaryOp .Pow) xPow := by
  intro pins s σ H x y v u Q I rx ry h
  cases x <;> cases y <;> first
    | exact False.elim h
    | exact powI pins s σ H _ _ v u Q I rx ry ⟨_, _, rfl, rfl, h⟩
/-! ### comparisons -/
/-- two lists one of which is empty: their lengths tell -/
def rLen2 (K : PySem.W.Frag) (f : Bool → Bool) : R2 := fun x y H Q => ∃ p q xs ys, x = .ref p ∧ y = .ref q ∧ SqL K H p xs ∧ SqL K H q ys ∧ (xs = [] ∨ ys = []) ∧ Q (.bl (f (decide (xs.length = ys.length)))) H
theorem eqLen (hu : X.A.units < cLine) : OpR X (compareOp .Eq) (rLen2 X.K id) := by
  intro pins s σ H x y v u Q I rx ry h
  obtain ⟨p, q, xs, ys, rfl, rfl, hx, hy, he, k⟩ := h
  cases rx
  cases ry
  obtain ⟨ix, vx, px, _⟩ := I.list hx
  obtain ⟨iy, vy, py, _⟩ := I.list hy
  have lx := vx.length
  have ly := vy.length
  by_cases e : xs.length = ys.length
  · have x0 : ix.toArray.size = 0 := by rcases he with rfl | rfl <;> simp_all
    rw [decide_eq_true e] at k
    refine SeqAt.eq_listAt (e := fun _ => true) px.isList py.isList (by rw [List.size_toArray, List.size_toArray]; omega) hu (fun j h1 _ => by omega) ?_
    rw [x0]
    exact ⟨.bl _, H, I, rfl, k⟩
  · rw [decide_eq_false e] at k
    exact SeqAt.eq_list_lengthsAt px.isList py.isList (by rw [List.size_toArray, List.size_toArray]; simp; omega) hu ⟨.bl _, H, I, rfl, k⟩
theorem neLen (hu : X.A.units < cLine) : OpR X (compareOp .NotEq) (rLen2 X.K (!·)) := by
  intro pins s σ H x y v u Q I rx ry h
  obtain ⟨p, q, xs, ys, rfl, rfl, hx, hy, he, k⟩ := h
  cases rx
  cases ry
  obtain ⟨ix, vx, px, _⟩ := I.list hx
  obtain ⟨iy, vy, py, _⟩ := I.list hy
  have lx := vx.length
  have ly := vy.length
  by_cases e : xs.length = ys.length
  · have x0 : ix.toArray.size = 0 := by rcases he with rfl | rfl <;> simp_all
    rw [decide_eq_true e] at k
    refine SeqAt.RcNeAt.lists (e := fun _ => true) px.isList py.isList (by rw [List.size_toArray, List.size_toArray]; omega) hu (fun j h1 _ => by omega) _ _ _ _ ?_
    rw [x0]
    exact ⟨.bl _, H, I, rfl, k⟩
  · rw [decide_eq_false e] at k
    exact SeqAt.RcNeAt.lists_lengths px.isList py.isList (by rw [List.size_toArray, List.size_toArray]; simp; omega) hu _ _ _ _ ⟨.bl _, H, I, rfl, k⟩
def xEq (K : PySem.W.Frag) : R2 := fun x y H Q => (scal x y = true ∧ Q (.bl (decide (x = y))) H) ∨ rEqD K x y H Q ∨ rLen2 K id x y H Q
theorem oEq₀ (hu : X.A.units + 65 < cLine) : OpR X (compareOp .Eq) (xEq X.K) := OpR.or op_eq (OpR.or (op_eqD (by omega)) (eqLen (by omega)))
def xNe (K : PySem.W.Frag) : R2 := fun x y H Q => (scal x y = true ∧ Q (.bl (!decide (x = y))) H) ∨ rNeD K x y H Q ∨ rLen2 K (!·) x y H Q
theorem oNe₀ (hu : X.A.units + 65 < cLine) : OpR X (compareOp .NotEq) (xNe X.K) := OpR.or op_ne (OpR.or (op_neD (by omega)) (neLen (by omega)))
def xLt : R2 := fun x y H Q => match x, y with
  | .int i, .int j => Q (.bl (decide (i < j))) H
  | .str a, .str b => Q (.bl (decide (a.cps.toList < b.cps.toList))) H
  | _, _ => False
theorem oLt : OpR X (compareOp .Lt) xLt := by
  intro pins s σ H x y v u Q I rx ry h
  cases x <;> cases y <;> first
    | exact False.elim h
    | exact op_lt pins s σ H _ _ v u Q I rx ry ⟨_, _, rfl, rfl, h⟩
    | exact op_lt_str pins s σ H _ _ v u Q I rx ry ⟨_, _, rfl, rfl, h⟩
def xLe : R2 := fun x y H Q => match x, y with
  | .int i, .int j => Q (.bl (decide (i ≤ j))) H
  | .str a, .str b => Q (.bl (!decide (b.cps.toList < a.cps.toList))) H
  | _, _ => False
theorem oLe : OpR X (compareOp .LtE) xLe := by
  intro pins s σ H x y v u Q I rx ry h
  cases x <;> cases y <;> first
    | exact False.elim h
    | exact op_le pins s σ H _ _ v u Q I rx ry ⟨_, _, rfl, rfl, h⟩
    | exact op_le_str pins s σ H _ _ v u Q I rx ry ⟨_, _, rfl, rfl, h⟩
def xGt : R2 := fun x y H Q => match x, y with
  | .int i, .int j => Q (.bl (decide (j < i))) H
  | .str a, .str b => Q (.bl (decide (b.cps.toList < a.cps.toList))) H
  | _, _ => False
theorem oGt : OpR X (compareOp .Gt) xGt := by
  intro pins s σ H x y v u Q I rx ry h
  cases x <;> cases y <;> first
    | exact False.elim h
    | exact op_gt pins s σ H _ _ v u Q I rx ry ⟨_, _, rfl, rfl, h⟩
    | exact op_gt_str pins s σ H _ _ v u Q I rx ry ⟨_, _, rfl, rfl, h⟩
def xGe : R2 := fun x y H Q => match x, y with
  | .int i, .int j => Q (.bl (decide (j ≤ i))) H
  | .str a, .str b => Q (.bl (!decide (a.cps.toList < b.cps.toList))) H
  | _, _ => False
theorem oGe : OpR X (compareOp .GtE) xGe := by
  intro pins s σ H x y v u Q I rx ry h
  cases x <;> cases y <;> first
    | exact False.elim h
    | exact op_ge pins s σ H _ _ v u Q I rx ry ⟨_, _, rfl, rfl, h⟩
    | exact op_ge_str pins s σ H _ _ v u Q I rx ry ⟨_, _, rfl, rfl, h⟩
/-- a text stands in another one -/
def inS (a b : Str) : Bool := !(Builtin.Str.occurrences b a 0 b.length 1).isEmpty
theorem inS_sign (c : Nat) (z : Str) : inS ⟨#[c]⟩ z = decide (c ∈ z.cps.toList) := PySem.StrLaws.found_one z c
def xIn (K : PySem.W.Frag) : R2 := fun x y H Q => match y with
  | .str b => ∃ a, x = .str a ∧ Q (.bl (inS a b)) H
  | .ref p => rIn K false x (.ref p) H Q
  | _ => False
theorem oIn₀ : OpR X (compareOp .In) (xIn X.K) := by
  intro pins s σ H x y v u Q I rx ry h
  cases y with
  | str b =>
    obtain ⟨a, rfl, q⟩ := h
    exact op_in_str pins s σ H _ _ v u Q I rx ry ⟨_, _, rfl, rfl, q⟩
  | ref p => exact op_in_seq pins s σ H _ _ v u Q I rx ry h
  | _ => exact False.elim h
def xNotIn (K : PySem.W.Frag) : R2 := fun x y H Q => match y with
  | .str b => ∃ a, x = .str a ∧ Q (.bl (!inS a b)) H
  | .ref p => rIn K true x (.ref p) H Q
  | _ => False
theorem oNotIn₀ : OpR X (compareOp .NotIn) (xNotIn X.K) := by
  intro pins s σ H x y v u Q I rx ry h
  cases y with
  | str b =>
    obtain ⟨a, rfl, q⟩ := h
    exact op_notin_str pins s σ H _ _ v u Q I rx ry ⟨_, _, rfl, rfl, q⟩
  | ref p => exact op_notIn_seq pins s σ H _ _ v u Q I rx ry h
  | _ => exact False.elim h
def xIs : R2 := fun x y H Q => y = .non ∧ Q (.bl (decide (x = .non))) H
theorem oIs : OpR X (compareOp .Is) xIs := op_isN
def xIsNot : R2 := fun x y H Q => y = .non ∧ Q (.bl (!decide (x = .non))) H
theorem oIsNot : OpR X (compareOp .IsNot) xIsNot := op_notN
/-! ### subscripts, slices, len, int, repr, what a for walks -/
def xIx (K : PySem.W.Frag) : R2 := fun x y H Q => match x, y with
  | .str z, .int i => ∃ c, z.length ≤ sizeLine ∧ atI z.cps.toList i = some c ∧ Q (.str ⟨#[c]⟩) H
  | .ref p, .int i => ∃ xs v, (SqL K H p xs ∨ SqT K H p xs) ∧ atI xs i = some v ∧ Q v H
  | _, _ => False
theorem ixX₀ : IxR X (xIx X.K) := by
  intro a b pins s σ H x y v u Q I rx ry h hs
  refine ix_seq a b pins s σ H x y v u Q I rx ry ?_ hs
  cases x <;> cases y <;> first
    | exact False.elim h
    | (obtain ⟨c, h1, h2, q⟩ := h; exact .inr (.inr ⟨_, _, c, rfl, rfl, h1, h2, q⟩))
    | (obtain ⟨xs, v, h1, h2, q⟩ := h
       rcases h1 with h1 | h1
       · exact .inl ⟨_, xs, _, v, rfl, rfl, h1, h2, q⟩
       · exact .inr (.inl ⟨_, xs, _, v, rfl, rfl, h1, h2, q⟩))
def xSl (K : PySem.W.Frag) : V → Option Int → Option Int → Hp → VK → Prop := fun x lo hi H Q => match x with
  | .str z => z.length ≤ sizeLine ∧ Q (.str (cutS z lo hi)) H
  | .ref p => rSlL K (.ref p) lo hi H Q ∨ rSlT K (.ref p) lo hi H Q
  | _ => False
theorem sX₀ : SlR X (xSl X.K) := by
  intro pins s σ H x v vl vu lo hi sl Q I rx hs pl pu h
  refine (SlR.or (SlR.or sl_list sl_tup) sl_str) pins s σ H x v vl vu lo hi sl Q I rx hs pl pu ?_
  cases x with
  | str z => exact .inr ⟨z, rfl, h⟩
  | ref p => exact .inl h
  | _ => exact False.elim h
def xLen (K : PySem.W.Frag) : List V → Hp → VK → Prop := fun xs H Q => ∃ x n, xs = [x] ∧ LenV K x H n ∧ Q (.int (n : Int)) H
theorem call_lenX₀ : CallR X (.builtin "len") (xLen X.K) := call_len
def xInt : List V → Hp → VK → Prop := fun xs H Q => match xs with
  | [.int i] => Q (.int i) H
  | [.bl k] => Q (.int (if k then 1 else 0)) H
  | [.str a] => ∃ n, PySem.intText? a = some n ∧ a.length ≤ 640 ∧ Q (.int n) H
  | _ => False
theorem call_intX : CallR X (.type "int") xInt := by
  intro pins s σ H xs us Q I r h
  match xs, h with
  | [.int i], h => exact call_int1 pins s σ H _ us Q I r (.inl ⟨i, rfl, h⟩)
  | [.bl k], h => exact call_int1 pins s σ H _ us Q I r (.inr ⟨k, rfl, h⟩)
  | [.str a], ⟨n, h1, h2, h3⟩ => exact call_int_str pins s σ H _ us Q I r ⟨a, n, rfl, h1, h2, h3⟩
def xMax : List V → Hp → VK → Prop := fun xs H Q => match xs with
  | [.int i, .int j] => Q (.int (max i j)) H
  | _ => False
theorem call_maxX (hc : X.calm = true) : CallR X (.builtin "max") xMax := by
  intro pins s σ H xs us Q I r h
  match xs, h with
  | [.int i, .int j], h =>
    refine call_max2 hc pins s σ H _ us Q I r ⟨i, j, rfl, ?_⟩
    have e : (if j > i then j else i) = max i j := by omega
    rw [e]
    exact h
def xMin : List V → Hp → VK → Prop := fun xs H Q => match xs with
  | [.int i, .int j] => Q (.int (min i j)) H
  | _ => False
theorem call_minX (hc : X.calm = true) : CallR X (.builtin "min") xMin := by
  intro pins s σ H xs us Q I r h
  match xs, h with
  | [.int i, .int j], h =>
    refine call_min2 hc pins s σ H _ us Q I r ⟨i, j, rfl, ?_⟩
    have e : (if j < i then j else i) = min i j := by omega
    rw [e]
    exact h
/-- what may be shown -/
def Shows (d : PyData) : Prop := d.showable = true ∧ d.hasDict = false ∧ d.depth ≤ 60 ∧ d.shown.length ≤ sizeLine
def xRepr (K : PySem.W.Frag) : List V → Hp → VK → Prop := fun xs H Q => ∃ x d, xs = [x] ∧ Dp K H x d ∧ Shows d ∧ Q (.str d.shown) H
theorem call_reprX₀ (hr : Rm 0 X.A) : CallR X (.builtin "repr") (xRepr X.K) := by
  intro pins s σ H xs us Q I r h
  obtain ⟨x, d, rfl, hd, ⟨h1, h2, h3, h4⟩, q⟩ := h
  obtain ⟨u, rfl, rx⟩ := vals1 r
  obtain ⟨as, rd⟩ := Dp.reads I d x u hd rx
  have hu := hr.r.un
  have hl : d.shown.length ≤ sizeLine := h4
  cases u with
  | ref a =>
    refine repr_of_reads' rd h1 (fun e => by rw [h2] at e; cases e) hr.g (by omega) (fun _ _ e => e) ?_ hl
    intro h' t tk keep
    exact ⟨.str _, H, I.kept keep, ⟨_, rfl⟩, q⟩
  | none => cases rd; exact P.repr_of_none ⟨.str _, H, I.tok _, ⟨_, rfl⟩, q⟩
  | bool b => cases rd; exact P.repr_of_bool ⟨.str _, H, I.tok _, ⟨_, by cases b <;> rfl⟩, q⟩
  | int i t =>
    cases rd
    refine P.repr_of_int ?_ ⟨.str _, H, I.tok _, ⟨_, rfl⟩, q⟩
    simpa [PyData.showable] using h1
  | str z t => cases rd; exact P.repr_of_str ⟨.str _, H, I.tok _, ⟨_, rfl⟩, q⟩ hl
  | _ => cases hd <;> cases rx <;> rename_i h <;> cases h
def xList (K : PySem.W.Frag) : List V → Hp → VK → Prop := fun xs H Q => ∃ p ys, xs = [.ref p] ∧ (SqL K H p ys ∨ SqT K H p ys) ∧ ∀ l, H l = none → Q (.ref l) (upd H l (.lst ys))
def xTup (K : PySem.W.Frag) : List V → Hp → VK → Prop := fun xs H Q => ∃ p ys, xs = [.ref p] ∧ ((SqL K H p ys ∧ ∀ l, H l = none → Q (.ref l) (upd H l (.tup ys))) ∨ (SqT K H p ys ∧ Q (.ref p) H))
def xSortDI : List V → Hp → VK → Prop := fun xs H Q => ∃ (a : Addr) (kvs : List (Key × V)) (ks : List Int), xs = [.ref a] ∧ Rd H a (.dK kvs) ∧ kvs.map (·.1) = ks.map Sum.inl ∧ ks.length < 64 ∧
  ∀ (ys : List Int) (p : Addr), ys.Perm ks → ys.Pairwise (· ≤ ·) → H p = none → Q (.ref p) (upd H p (.lst (ys.map V.int)))
/-! the same, the written part named -/
variable {K : PySem.W.Frag}
theorem oAdd (e : X.K = K := by rfl) : OpR X (binaryOp .Add) (xAdd K) := by
  subst e
  exact oAdd₀
theorem oMul (e : X.K = K := by rfl) : OpR X (binaryOp .Mult) (xMul K) := by
  subst e
  exact oMul₀
theorem oEq (hu : X.A.units + 65 < cLine) (e : X.K = K := by rfl) : OpR X (compareOp .Eq) (xEq K) := by
  subst e
  exact oEq₀ hu
theorem oNe (hu : X.A.units + 65 < cLine) (e : X.K = K := by rfl) : OpR X (compareOp .NotEq) (xNe K) := by
  subst e
  exact oNe₀ hu
theorem oIn (e : X.K = K := by rfl) : OpR X (compareOp .In) (xIn K) := by
  subst e
  exact oIn₀
theorem oNotIn (e : X.K = K := by rfl) : OpR X (compareOp .NotIn) (xNotIn K) := by
  subst e
  exact oNotIn₀
theorem ixX (e : X.K = K := by rfl) : IxR X (xIx K) := by
  subst e
  exact ixX₀
theorem sX (e : X.K = K := by rfl) : SlR X (xSl K) := by
  subst e
  exact sX₀
theorem call_lenX (e : X.K = K := by rfl) : CallR X (.builtin "len") (xLen K) := by
  subst e
  exact call_lenX₀
theorem call_reprX (hr : Rm 0 X.A) (e : X.K = K := by rfl) : CallR X (.builtin "repr") (xRepr K) := by
  subst e
  exact call_reprX₀ hr
theorem isiX (e : X.K = K := by rfl) : CallR X (.builtin "isinstance") (rIsi K) := by
  subst e
  exact call_isi
theorem isiTX (e : X.K = K := by rfl) : CallR X (.builtin "isinstance") (rIsiT K) := by
  subst e
  exact call_isiT
theorem allX (hc : X.calm = true) (e : X.K = K := by rfl) : CallR X (.builtin "all") (rAll K) := by
  subst e
  exact cr_all hc
theorem anyX (hc : X.calm = true) (e : X.K = K := by rfl) : CallR X (.builtin "any") (rAny K) := by
  subst e
  exact cr_any hc
/-- whatever a for walks: a list, a tuple, a text -/
def iAny (K : PySem.W.Frag) (te : TE) : TI := fun σ H R => iList K te σ H R ∨ iTup K te σ H R ∨ iStr te σ H R
theorem pi_any {tg e : Expr} {te : TE} (he : PE X e te) (ek : X.K = K := by rfl) : PI X tg e (iAny K te) := by
  subst ek
  refine ⟨fun pins s σ H R I h => ?_⟩
  rcases h with h | h | h
  · exact (pi_list he).run pins s σ H R I h
  · exact (pi_tup he).run pins s σ H R I h
  · exact (pi_str he).run pins s σ H R I h
theorem pe_bmX {o e : Expr} {es : List Expr} {to : TE} {t : TA} {name : Str} {apos cpos : Pos} {T id : String} {r : V → List V → Hp → VK → Prop} (pa : PlainAttrs T) (slot : Slot T name id) (hty : typeOf (.builtin id) = pure (.type "method_descriptor"))
    (hm : MtR X id r) (ho : PE X o to) (ha : PA X (e :: es) t) (ek : X.K = K := by rfl)
    (hbase : attributeBase o name X.env (eval o X.env) = eval o X.env := by rfl)
    (hfew : ((backTo cpos (starEach (e :: es) X.env)).all (fun x => !x.1) && (backToKw cpos (keywordEach [] X.env)).all (fun x => x.1.isSome) && decide ((e :: es).length + ([] : List Keyword).length + (if ([] : List Keyword).isEmpty then 0 else 1) < 30)) = true := by rfl)
    (hline : (apos.endLine == cpos.line) = true := by rfl) (hs : starEach (e :: es) X.env = (false, eval e X.env) :: starEach es X.env := by rfl) (hplain : (backTo cpos (starEach es X.env)).any (·.1) = false := by rfl) :
    PE X (.Call (.Attribute o name apos) (e :: es) [] cpos) (tBM K T r to t) := by
  subst ek
  exact pe_bm pa slot hty hm ho ha hbase hfew hline hs hplain
theorem pe_bm0X {o : Expr} {to : TE} {name : Str} {apos cpos : Pos} {T id : String} {r : V → List V → Hp → VK → Prop} (pa : PlainAttrs T) (slot : Slot T name id) (hty : typeOf (.builtin id) = pure (.type "method_descriptor"))
    (hm : MtR X id r) (ho : PE X o to) (ek : X.K = K := by rfl) (hbase : attributeBase o name X.env (eval o X.env) = eval o X.env := by rfl) (hline : (apos.endLine == cpos.line) = true := by rfl) :
    PE X (.Call (.Attribute o name apos) [] [] cpos) (tBM0 K T r to) := by
  subst ek
  exact pe_bm0 pa slot hty hm ho hbase hline
theorem pg_tupX {es : List Expr} {k : Nat} {t : TGs} {n : Nat} {pos : Pos} (hc : X.calm = true) (h : PGs X es t) (ek : X.K = K := by rfl)
    (hn : (assignEach es X.env).length = n := by rfl) (hst : (assignEach es X.env).findIdx? (·.1) = none := by rfl) : PG X (.Tuple es k pos) (gTup K n t) := by
  subst ek
  exact pg_tup hc h hn hst
theorem pi_enumX {e : Expr} {ta : TA} {p pos tpos : Pos} {elts : List Expr} {kk : Nat} (hg : Gl X "enumerate") (hm : X.mg "enumerate" = none) (ha : PA X [e] ta) (ek : X.K = K := by rfl)
    (hs : starEach [e] X.env = [(false, eval e X.env)] := by rfl) : PI X (.Tuple elts kk tpos) (.Call (.Name "enumerate" p) [e] [] pos) (iEnum K ta) := by
  subst ek
  exact pi_enum hg hm ha hs
theorem pi_zipX {e e2 : Expr} {ta : TA} {p pos tpos : Pos} {elts : List Expr} {kk : Nat} (hg : Gl X "zip") (hm : X.mg "zip" = none) (ha : PA X [e, e2] ta) (ek : X.K = K := by rfl)
    (hs : starEach [e, e2] X.env = (false, eval e X.env) :: starEach [e2] X.env := by rfl) (hpl : (backTo pos (starEach [e2] X.env)).any (·.1) = false := by rfl) :
    PI X (.Tuple elts kk tpos) (.Call (.Name "zip" p) [e, e2] [] pos) (iZip K ta) := by
  subst ek
  exact pi_zip hg hm ha hs hpl
theorem callListX (e : X.K = K := by rfl) : CallR X (.type "list") (xList K) := by
  subst e
  exact call_list_of
theorem callTupX (e : X.K = K := by rfl) : CallR X (.type "tuple") (xTup K) := by
  subst e
  exact call_tuple_of
/-- a, b, .. = a tuple or a list of that length -/
def gSeq (K : PySem.W.Frag) (n : Nat) (t : TGs) : TG := fun v σ H Q => gTup K n t v σ H Q ∨ gLst K n t v σ H Q
theorem pg_seqX {es : List Expr} {k : Nat} {t : TGs} {n : Nat} {pos : Pos} (hc : X.calm = true) (h : PGs X es t) (ek : X.K = K := by rfl)
    (hn : (assignEach es X.env).length = n := by rfl) (hst : (assignEach es X.env).findIdx? (·.1) = none := by rfl) : PG X (.Tuple es k pos) (gSeq K n t) := by
  subst ek
  refine ⟨fun pins s σ H v u Q I r hw => ?_⟩
  rcases hw with hw | hw
  · exact (pg_tup hc h hn hst).run pins s σ H v u Q I r hw
  · exact (pg_lst hc h hn hst).run pins s σ H v u Q I r hw
def xStrI : List V → Hp → VK → Prop := fun xs H Q => ∃ i, xs = [.int i] ∧ i.natAbs.log2 < 1920 ∧ Q (.str (toString i)) H
theorem callStrX : CallR X (.type "str") xStrI := call_str_int
end
end Mine

/-! ## Readings, step by step -/
namespace Mine
open PySem PySem.Spec PyProof.Rows L2
set_option linter.all false
theorem dec_i {a b : Int} : decide (V.int a = V.int b) = decide (a = b) := by
  rw [Bool.eq_iff_iff]
  simp
theorem dec_s {a b : Str} : decide (V.str a = V.str b) = decide (a = b) := by
  rw [Bool.eq_iff_iff]
  simp
theorem dec_b {a b : Bool} : decide (V.bl a = V.bl b) = (a == b) := by
  cases a <;> cases b <;> rfl
section
variable {σ σ' : St} {H : Hp} {Q : VK} {QB : Bool → Hp → Prop} {QA : List V → Hp → Prop} {QO : Option Int → Hp → Prop} {v x y : V} {i j : Nat} {ta tb tc te : TE} {r r' : R2} {t u : TT} {b : Bool} {K : PySem.W.Frag} {D : Ends} {g : TG} {s s' : TS} {tA tA' : TA} {to tl th : TO}
theorem rd_var (h : σ[i]? = some (some v)) (q : Q v H) : tVar i σ H Q := ⟨v, h, q⟩
theorem rd_c (q : Q v H) : tC v σ H Q := q
theorem rd_op (q : ta σ H fun x H1 => tb σ H1 fun y H2 => r x y H2 Q) : tOp r ta tb σ H Q := q
theorem rd_un {r : V → Hp → VK → Prop} (q : ta σ H fun x H1 => r x H1 Q) : tUn r ta σ H Q := q
theorem rd_test (q : te σ H fun x H' => ∃ k, x = .bl k ∧ QB k H') : tTest te σ H QB := q
theorem rd_tB (q : te σ H fun x H' => ∃ k, x = .bl k ∧ QB k H') : tB te σ H QB := q
theorem rd_bl {QB : Bool → Prop} (q : QB b) : ∃ k, V.bl b = .bl k ∧ QB k := ⟨b, rfl, q⟩
theorem rd_chain (q : ta σ H fun x H1 => tb σ H1 fun y H2 => r x y H2 fun z H3 => ∃ k, z = .bl k ∧ (if k = true then tc σ H3 fun w' H4 => r' y w' H4 Q else Q (.bl false) H3)) : tChain r r' ta tb tc σ H Q := q
theorem rd_ifE (q : t σ H fun c H1 => if c = true then ta σ H1 Q else tb σ H1 Q) : tIf t ta tb σ H Q := q
theorem rd_and (q : t σ H fun c H1 => if c = true then u σ H1 QB else QB false H1) : tAnd t u σ H QB := q
theorem rd_or (q : t σ H fun c H1 => if c = true then QB true H1 else u σ H1 QB) : tOr t u σ H QB := q
theorem rd_not (q : t σ H fun c H1 => QB (!c) H1) : tNot t σ H QB := q
theorem rd_andV (q : ta σ H fun x H1 => ∃ c, x = .bl c ∧ if c = true then tb σ H1 Q else Q (.bl false) H1) : tAndV ta tb σ H Q := q
theorem rd_orV (q : ta σ H fun x H1 => ∃ c, x = .bl c ∧ if c = true then Q (.bl true) H1 else tb σ H1 Q) : tOrV ta tb σ H Q := q
theorem rd_notV (q : ta σ H fun x H1 => ∃ c, x = .bl c ∧ Q (.bl (!c)) H1) : tNotV ta σ H Q := q
theorem rd_nil (q : QA [] H) : tNil σ H QA := q
theorem rd_cons (q : ta σ H fun x H1 => tA σ H1 fun xs H2 => QA (x :: xs) H2) : tCons ta tA σ H QA := q
theorem rd_lst (q : tA σ H fun xs H1 => xs.length ≤ sizeLine ∧ ∀ p, H1 p = none → Q (.ref p) (upd H1 p (.lst xs))) : tLst tA σ H Q := q
theorem rd_tup (q : tA σ H fun xs H1 => xs.length ≤ sizeLine ∧ ∀ p, H1 p = none → Q (.ref p) (upd H1 p (.tup xs))) : tTup tA σ H Q := q
theorem rd_new {A : Prop} {xs : List V} (h : Nat.ble xs.length 100000 = true) (q : A) : xs.length ≤ sizeLine ∧ A := ⟨Nat.le_trans (Nat.le_of_ble_eq_true h) (by decide), q⟩
theorem rd_call {sp : Sp} {ds : List V} {E : XK} (q : tA σ H fun vs H1 => sp (vs ++ ds) H1 Q E) : tCall sp ds E tA σ H Q := q
theorem rd_callK {n m : Nat} {pm : List Nat} {sp : Sp} {E : XK} (q : tA σ H fun vs H1 => tA' σ H1 fun zs H2 => vs.length = n ∧ zs.length = m ∧ sp (gK pm vs zs) H2 Q E) : tCalK n m pm sp E tA tA' σ H Q := q
theorem rd_sp1 {Φ : V → Hp → VK → Prop} {E : XK} {a : V} (q : Φ a H Q) : sp1 Φ ([a] ++ []) H Q E := ⟨a, rfl, q⟩
theorem rd_sp2 {Φ : V → V → Hp → VK → Prop} {E : XK} {a b : V} (q : Φ a b H Q) : sp2 Φ ([a, b] ++ []) H Q E := ⟨a, b, rfl, q⟩
theorem rd_sp3 {Φ : V → V → V → Hp → VK → Prop} {E : XK} {a b c : V} (q : Φ a b c H Q) : sp3 Φ ([a, b, c] ++ []) H Q E := ⟨a, b, c, rfl, q⟩
theorem rd_sp4 {Φ : V → V → V → V → Hp → VK → Prop} {E : XK} {a b c d : V} (q : Φ a b c d H Q) : sp4 Φ ([a, b, c, d] ++ []) H Q E := ⟨a, b, c, d, rfl, q⟩
theorem rd_k {A B C D : Prop} (h : A = True) (h' : B = True) (q : C) : A ∧ B ∧ C := ⟨h ▸ trivial, h' ▸ trivial, q⟩
theorem rd_cb {r : List V → Hp → VK → Prop} (q : tA σ H fun vs H1 => r vs H1 Q) : tCB r tA σ H Q := q
theorem rd_bm0 {T : String} {r : V → List V → Hp → VK → Prop} (q : te σ H fun x H1 => tyV K T x H1 ∧ r x [] H1 Q) : tBM0 K T r te σ H Q := q
theorem rd_bm {T : String} {r : V → List V → Hp → VK → Prop} (q : te σ H fun x H1 => tyV K T x H1 ∧ tA σ H1 fun xs H2 => r x xs H2 Q) : tBM K T r te tA σ H Q := q
theorem rd_m0 {r : V → List V → Hp → VK → Prop} (q : te σ H fun x H1 => (∃ a, x = .str a) ∧ r x [] H1 Q) : tM0 r te σ H Q := q
theorem rd_m1 {r : V → List V → Hp → VK → Prop} (q : te σ H fun x H1 => (∃ a, x = .str a) ∧ ta σ H1 fun y H2 => r x [y] H2 Q) : tM1 r te ta σ H Q := q
theorem rd_tyS {A : Prop} {a : Str} (q : A) : tyV K "str" (.str a) H ∧ A := ⟨rfl, q⟩
theorem rd_isS {A : Prop} {a : Str} (q : A) : (∃ z, V.str a = .str z) ∧ A := ⟨⟨a, rfl⟩, q⟩
theorem rd_tyL {A : Prop} {p : Addr} {xs : List V} (h : SqL K H p xs) (q : A) : tyV K "list" (.ref p) H ∧ A := ⟨.inl ⟨rfl, xs, h⟩, q⟩
theorem rd_sl {r : V → Option Int → Option Int → Hp → VK → Prop} (q : te σ H fun x H1 => tl σ H1 fun l H2 => th σ H2 fun u H3 => r x l u H3 Q) : L2.tSl r te tl th σ H Q := q
theorem rd_noPart (q : QO none H) : tNoPart σ H QO := q
theorem rd_part (q : te σ H fun x H1 => ∃ i, x = .int i ∧ QO (some i) H1) : tPart te σ H QO := q
theorem rd_int {QI : Int → Prop} {n : Int} (q : QI n) : ∃ i, V.int n = .int i ∧ QI i := ⟨n, rfl, q⟩
theorem rd_yes (q : QB true H) : tYes σ H QB := q
/-! statements -/
theorem rd_seq (q : s { D with nx := s' D } σ H) : tSeq s s' D σ H := q
theorem rd_meet (M : St → Hp → Prop) (h : s { D with nx := M } σ H) (k : ∀ σ' H', M σ' H' → s' D σ' H') : tMeet s s' D σ H := ⟨M, h, k⟩
theorem rd_next (q : D.nx σ H) : tNext D σ H := q
theorem rd_brk (q : D.bk σ H) : tBreak D σ H := q
theorem rd_cont (q : D.ct σ H) : tCont D σ H := q
theorem rd_asg (q : te σ H fun x H1 => g x σ H1 D.nx) : tAsg te g D σ H := q
theorem rd_gname {k : St → Hp → Prop} (e : σ.set i (some x) = σ') (q : k σ' H) : gName i x σ H k := by subst e; exact q
theorem rd_gtup {n : Nat} {t : TGs} {a : Addr} {xs : List V} {k : St → Hp → Prop} (h : SqT K H a xs) (e : xs.length = n) (q : t xs σ H k) : gSeq K n t (.ref a) σ H k := .inl ⟨a, xs, rfl, h, e, q⟩
theorem rd_glst {n : Nat} {t : TGs} {a : Addr} {xs : List V} {k : St → Hp → Prop} (h : SqL K H a xs) (e : xs.length = n) (q : t xs σ H k) : gSeq K n t (.ref a) σ H k := .inr ⟨a, xs, rfl, h, e, q⟩
theorem rd_gcons {t : TG} {u : TGs} {vs : List V} {k : St → Hp → Prop} (q : t v σ H fun σ' H' => u vs σ' H' k) : gCons t u (v :: vs) σ H k := ⟨v, vs, rfl, q⟩
theorem rd_gnil {k : St → Hp → Prop} (q : k σ H) : gNil [] σ H k := ⟨rfl, q⟩
theorem rd_gsub {t : TSet} {k : St → Hp → Prop} (q : ta σ H fun o H1 => tb σ H1 fun i H2 => t o i v H2 fun H3 => k σ H3) : gSub ta tb t v σ H k := q
theorem rd_par (q : tA σ H fun vs H1 => ∃ v w, vs = [v, w] ∧ D.nx ((σ.set i (some v)).set j (some w)) H1) : tPar i j tA D σ H := q
theorem rd_par2 {a b : V} (e : (σ.set i (some a)).set j (some b) = σ') (q : D.nx σ' H) : ∃ v w, [a, b] = [v, w] ∧ D.nx ((σ.set i (some v)).set j (some w)) H := ⟨a, b, rfl, by rw [e]; exact q⟩
theorem rd_drop (q : te σ H fun _ H1 => D.nx σ H1) : tDrop te D σ H := q
theorem rd_ret (q : te σ H D.rt) : tRet te D σ H := q
theorem rd_retN (q : D.rt .non H) : tRetN D σ H := q
theorem rd_ifS (q : t σ H fun b H1 => if b = true then s D σ H1 else s' D σ H1) : tIfS t s s' D σ H := q
theorem rd_aug {ti : TIp} (h : σ[i]? = some (some x)) (q : te σ H fun y H1 => ti x y H1 fun z H2 => D.nx (σ.set i (some z)) H2) : tAug i te ti D σ H := ⟨x, h, q⟩
theorem rd_ipI {f : Int → Int → Int} {a b : Int} (q : Q (.int (f a b)) H) : ipI f (.int a) (.int b) H Q := ⟨a, b, rfl, rfl, q⟩
/-! what is asked of values -/
theorem rd_addI {a b : Int} (q : Q (.int (a + b)) H) : xAdd K (.int a) (.int b) H Q := q
theorem rd_addS {a b : Str} (h : a.length + b.length ≤ sizeLine) (q : Q (.str (a ++ b)) H) : xAdd K (.str a) (.str b) H Q := ⟨h, q⟩
theorem rd_subI {a b : Int} (q : Q (.int (a - b)) H) : xSub (.int a) (.int b) H Q := q
theorem rd_mulI {a b : Int} (h : IntMulOk a b) (q : Q (.int (a * b)) H) : xMul K (.int a) (.int b) H Q := ⟨h, q⟩
theorem rd_modI {a b : Int} (h : 0 < b) (q : Q (.int (a % b)) H) : xMod (.int a) (.int b) H Q := ⟨h, q⟩
theorem rd_modL {a b : Int} (h : 0 < b) (q : ∀ z, 0 ≤ z → z < b → Q (.int z) H) : xMod (.int a) (.int b) H Q := ⟨h, q _ (Int.emod_nonneg _ (by omega)) (Int.emod_lt_of_pos _ h)⟩
theorem rd_divI {a b : Int} (h : CDivW a b) (q : Q (.int (a / b)) H) : xDiv (.int a) (.int b) H Q := ⟨h, q⟩
theorem rd_powI {a b : Int} (h : PowOk a b) (q : Q (.int (a ^ b.toNat)) H) : xPow (.int a) (.int b) H Q := ⟨h, q⟩
theorem rd_ltI {a b : Int} (q : Q (.bl (decide (a < b))) H) : xLt (.int a) (.int b) H Q := q
theorem rd_leI {a b : Int} (q : Q (.bl (decide (a ≤ b))) H) : xLe (.int a) (.int b) H Q := q
theorem rd_gtI {a b : Int} (q : Q (.bl (decide (b < a))) H) : xGt (.int a) (.int b) H Q := q
theorem rd_geI {a b : Int} (q : Q (.bl (decide (b ≤ a))) H) : xGe (.int a) (.int b) H Q := q
theorem rd_ltS {a b : Str} (q : Q (.bl (decide (a.cps.toList < b.cps.toList))) H) : xLt (.str a) (.str b) H Q := q
theorem rd_leS {a b : Str} (q : Q (.bl (!decide (b.cps.toList < a.cps.toList))) H) : xLe (.str a) (.str b) H Q := q
theorem rd_gtS {a b : Str} (q : Q (.bl (decide (b.cps.toList < a.cps.toList))) H) : xGt (.str a) (.str b) H Q := q
theorem rd_geS {a b : Str} (q : Q (.bl (!decide (a.cps.toList < b.cps.toList))) H) : xGe (.str a) (.str b) H Q := q
theorem rd_eqI {a b : Int} (q : Q (.bl (decide (a = b))) H) : xEq K (.int a) (.int b) H Q := .inl ⟨rfl, by rw [dec_i]; exact q⟩
theorem rd_eqS {a b : Str} (q : Q (.bl (decide (a = b))) H) : xEq K (.str a) (.str b) H Q := .inl ⟨rfl, by rw [dec_s]; exact q⟩
theorem rd_neI {a b : Int} (q : Q (.bl (!decide (a = b))) H) : xNe K (.int a) (.int b) H Q := .inl ⟨rfl, by rw [dec_i]; exact q⟩
theorem rd_neS {a b : Str} (q : Q (.bl (!decide (a = b))) H) : xNe K (.str a) (.str b) H Q := .inl ⟨rfl, by rw [dec_s]; exact q⟩
theorem rd_eqB {a b : Bool} (q : Q (.bl (a == b)) H) : xEq K (.bl a) (.bl b) H Q := .inl ⟨rfl, by rw [dec_b]; exact q⟩
theorem rd_inS {a b : Str} (q : Q (.bl (inS a b)) H) : xIn K (.str a) (.str b) H Q := ⟨a, rfl, q⟩
theorem rd_notInS {a b : Str} (q : Q (.bl (!inS a b)) H) : xNotIn K (.str a) (.str b) H Q := ⟨a, rfl, q⟩
theorem rd_inT {p : Addr} {xs : List V} (h : SqT K H p xs) (f : flatV x = true) (f' : xs.all flatV = true) (q : Q (.bl (inV x xs)) H) : xIn K x (.ref p) H Q := ⟨p, xs, rfl, .inr h, f, f', q⟩
theorem rd_inL {p : Addr} {xs : List V} (h : SqL K H p xs) (f : flatV x = true) (f' : xs.all flatV = true) (q : Q (.bl (inV x xs)) H) : xIn K x (.ref p) H Q := ⟨p, xs, rfl, .inl h, f, f', q⟩
theorem rd_notInT {p : Addr} {xs : List V} (h : SqT K H p xs) (f : flatV x = true) (f' : xs.all flatV = true) (q : Q (.bl (!inV x xs)) H) : xNotIn K x (.ref p) H Q := ⟨p, xs, rfl, .inr h, f, f', q⟩
theorem rd_notInL {p : Addr} {xs : List V} (h : SqL K H p xs) (f : flatV x = true) (f' : xs.all flatV = true) (q : Q (.bl (!inV x xs)) H) : xNotIn K x (.ref p) H Q := ⟨p, xs, rfl, .inl h, f, f', q⟩
theorem rd_eqNil {p q : Addr} {xs : List V} (h : SqL K H p xs) (h' : SqL K H q []) (k : Q (.bl xs.isEmpty) H) : xEq K (.ref p) (.ref q) H Q :=
  .inr (.inr ⟨p, q, xs, [], rfl, rfl, h, h', .inr rfl, by cases xs <;> exact k⟩)
theorem rd_neNil {p q : Addr} {xs : List V} (h : SqL K H p xs) (h' : SqL K H q []) (k : Q (.bl (!xs.isEmpty)) H) : xNe K (.ref p) (.ref q) H Q :=
  .inr (.inr ⟨p, q, xs, [], rfl, rfl, h, h', .inr rfl, by cases xs <;> exact k⟩)
theorem rd_eqD {d e : PyData} (hd : Dp K H x d) (he : Dp K H y e) (sd : SeqAt.shaped d = true) (se : SeqAt.shaped e = true) (q : Q (.bl (PyData.eqv d e)) H) : xEq K x y H Q := .inr (.inl ⟨d, e, hd, he, sd, se, q⟩)
theorem rd_neD {d e : PyData} (hd : Dp K H x d) (he : Dp K H y e) (sd : SeqAt.shaped d = true) (se : SeqAt.shaped e = true) (q : Q (.bl (!PyData.eqv d e)) H) : xNe K x y H Q := .inr (.inl ⟨d, e, hd, he, sd, se, q⟩)
theorem rd_is (q : Q (.bl (decide (x = .non))) H) : xIs x .non H Q := ⟨rfl, q⟩
theorem rd_isNot (q : Q (.bl (!decide (x = .non))) H) : xIsNot x .non H Q := ⟨rfl, q⟩
theorem rd_ixL {p : Addr} {xs : List V} {n : Int} (h : SqL K H p xs) (e : atI xs n = some v) (q : Q v H) : xIx K (.ref p) (.int n) H Q := ⟨xs, v, .inl h, e, q⟩
theorem rd_ixT {p : Addr} {xs : List V} {n : Int} (h : SqT K H p xs) (e : atI xs n = some v) (q : Q v H) : xIx K (.ref p) (.int n) H Q := ⟨xs, v, .inr h, e, q⟩
theorem rd_ixS {z : Str} {n : Int} {c : Nat} (h : z.length ≤ sizeLine) (e : atI z.cps.toList n = some c) (q : Q (.str ⟨#[c]⟩) H) : xIx K (.str z) (.int n) H Q := ⟨c, h, e, q⟩
theorem rd_slS {z : Str} {lo hi : Option Int} (h : z.length ≤ sizeLine) (q : Q (.str (cutS z lo hi)) H) : xSl K (.str z) lo hi H Q := ⟨h, q⟩
theorem rd_slL {p : Addr} {xs : List V} {lo hi : Option Int} (h : SqL K H p xs) (q : ∀ l, H l = none → Q (.ref l) (upd H l (.lst (cutV xs lo hi)))) : xSl K (.ref p) lo hi H Q := .inl ⟨p, xs, rfl, h, q⟩
theorem rd_lenS {z : Str} (h : z.length ≤ sizeLine) (q : Q (.int (z.length : Nat)) H) : xLen K [.str z] H Q := ⟨_, _, rfl, ⟨h, rfl⟩, q⟩
theorem rd_lenL {p : Addr} {xs : List V} (h : SqL K H p xs) (q : Q (.int (xs.length : Nat)) H) : xLen K [.ref p] H Q := ⟨_, _, rfl, .inl ⟨xs, h, rfl⟩, q⟩
theorem rd_lenT {p : Addr} {xs : List V} (h : SqT K H p xs) (q : Q (.int (xs.length : Nat)) H) : xLen K [.ref p] H Q := ⟨_, _, rfl, .inr ⟨xs, h, rfl⟩, q⟩
theorem rd_intI {n : Int} (q : Q (.int n) H) : xInt [.int n] H Q := q
theorem rd_intB (q : Q (.int (if b then 1 else 0)) H) : xInt [.bl b] H Q := q
theorem rd_max {n m : Int} (q : Q (.int (max n m)) H) : xMax [.int n, .int m] H Q := q
theorem rd_min {n m : Int} (q : Q (.int (min n m)) H) : xMin [.int n, .int m] H Q := q
theorem rd_repr {d : PyData} (h : Dp K H x d) (h' : Shows d) (q : Q (.str d.shown) H) : xRepr K [x] H Q := ⟨x, d, rfl, h, h', q⟩
theorem rd_isi {T : String} {t : Value} (ty : TyX K H x t) (e : PySem.W.kitOne K t (.type T) = some b) (q : Q (.bl b) H) : rIsi K [x, .ty T] H Q := ⟨x, .ty T, t, .type T, b, rfl, .ty T, ty, e, q⟩
theorem rd_isiS {z : Str} (q : Q (.bl true) H) : rIsi K [.str z, .ty "str"] H Q := rd_isi (b := true) (.base (.str z)) (kit_ty (by decide +kernel)) q
theorem rd_isiSN (q : Q (.bl false) H) : rIsi K [.non, .ty "str"] H Q := rd_isi (b := false) (.base .non) (kit_ty (by decide +kernel)) q
theorem rd_isiSI {n : Int} (q : Q (.bl false) H) : rIsi K [.int n, .ty "str"] H Q := rd_isi (b := false) (.base (.int n)) (kit_ty (by decide +kernel)) q
theorem rd_isiSB {c : Bool} (q : Q (.bl false) H) : rIsi K [.bl c, .ty "str"] H Q := rd_isi (b := false) (.base (.bl c)) (kit_ty (by decide +kernel)) q
theorem rd_isiI {n : Int} (q : Q (.bl true) H) : rIsi K [.int n, .ty "int"] H Q := rd_isi (b := true) (.base (.int n)) (kit_ty (by decide +kernel)) q
theorem rd_isiIB {c : Bool} (q : Q (.bl true) H) : rIsi K [.bl c, .ty "int"] H Q := rd_isi (b := true) (.base (.bl c)) (kit_ty (by decide +kernel)) q
theorem rd_isiIN (q : Q (.bl false) H) : rIsi K [.non, .ty "int"] H Q := rd_isi (b := false) (.base .non) (kit_ty (by decide +kernel)) q
theorem rd_isiIS {z : Str} (q : Q (.bl false) H) : rIsi K [.str z, .ty "int"] H Q := rd_isi (b := false) (.base (.str z)) (kit_ty (by decide +kernel)) q
theorem rd_isiB {c : Bool} (q : Q (.bl true) H) : rIsi K [.bl c, .ty "bool"] H Q := rd_isi (b := true) (.base (.bl c)) (kit_ty (by decide +kernel)) q
theorem rd_isiBI {n : Int} (q : Q (.bl false) H) : rIsi K [.int n, .ty "bool"] H Q := rd_isi (b := false) (.base (.int n)) (kit_ty (by decide +kernel)) q
theorem rd_rep {p : Addr} {xs : List V} {n : Int} (h : H p = some (.lst xs)) (h0 : 0 ≤ n) (h1 : n < 1000000) (hz : xs.length * n.toNat ≤ sizeLine) (q : ∀ l, H l = none → Q (.ref l) (upd H l (.lst (List.replicate n.toNat xs).flatten))) : xMul K (.ref p) (.int n) H Q :=
  ⟨p, n, xs, rfl, rfl, h, by omega, by omega, hz, q⟩
theorem rd_mulS {z : Str} {n : Int} (hz : z.length ≤ 16) (hn : n ≤ 1048576) (h0 : 0 ≤ n) (q : Q (.str (Txt.mul z n)) H) : xMul K (.str z) (.int n) H Q := ⟨mulOk_of 16 1048576 hz hn (by omega) (by decide) (by decide), q⟩
theorem rd_catS {p l : Addr} {xs ys : List V} (h : SqL K H p xs) (h' : SqL K H l ys) (hz : xs.length + ys.length ≤ sizeLine) (q : ∀ r, H r = none → Q (.ref r) (upd H r (.lst (xs ++ ys)))) : xAdd K (.ref p) (.ref l) H Q :=
  .inl ⟨p, l, xs, ys, rfl, rfl, h, h', hz, q⟩
theorem rd_cat {p l : Addr} {xs ys : List V} (h : H p = some (.lst xs)) (h' : H l = some (.lst ys)) (hz : xs.length + ys.length ≤ sizeLine) (q : ∀ r, H r = none → Q (.ref r) (upd H r (.lst (xs ++ ys)))) : xAdd K (.ref p) (.ref l) H Q :=
  rd_catS (.of h) (.of h') hz q
theorem rd_wipe {s1 s2 : St} {ws : List Nat} {A : Prop} (h : wipe s1 ws = wipe s2 ws) (q : A) : wipe s1 ws = wipe s2 ws ∧ A := ⟨h, q⟩
theorem rd_split {a b : Str} (h : (b.length == 0) = false) (hz : a.length ≤ 1000000) (q : ∀ p, H p = none → Q (.ref p) (upd H p (.lst ((Txt.split a b).map V.str)))) :
    ∃ a' b', V.str a = .str a' ∧ [V.str b] = [.str b'] ∧ (b'.length == 0) = false ∧ a'.length + 2 ≤ sizeLine ∧ rNewStrs (Txt.split a' b') H Q := ⟨a, b, rfl, rfl, h, Nat.le_trans (Nat.add_le_add_right hz 2) (by decide), q⟩
theorem rd_app {p : Addr} {xs : List V} (h : H p = some (.lst xs)) (l : xs.length < sizeLine) (q : Q .non (upd H p (.lst (xs ++ [x])))) : rAppend (.ref p) [x] H Q := ⟨p, xs, x, rfl, rfl, h, l, q⟩
theorem rd_all {p : Addr} {bs : List Bool} (h : SqL K H p (bs.map V.bl)) (q : Q (.bl (bs.all id)) H) : rAll K [.ref p] H Q := ⟨p, bs, rfl, h, q⟩
theorem rd_any {p : Addr} {bs : List Bool} (h : SqL K H p (bs.map V.bl)) (q : Q (.bl (bs.any id)) H) : rAny K [.ref p] H Q := ⟨p, bs, rfl, h, q⟩
theorem rd_setL {p : Addr} {xs : List V} {n : Int} {j : Nat} {QH : Hp → Prop} (h : H p = some (.lst xs)) (e : ixN xs.length n = some j) (q : QH (upd H p (.lst (xs.set j v)))) : rSetL (.ref p) (.int n) v H QH := ⟨p, xs, n, j, rfl, rfl, h, e, q⟩
theorem rd_ite {A B : Prop} (h1 : b = true → A) (h2 : b = false → B) : if b = true then A else B := by
  cases b with
  | true => exact h1 rfl
  | false => exact h2 rfl
theorem rd_yT {A B : Prop} (h : A) : if true = true then A else B := by rw [if_pos rfl]; exact h
theorem rd_yF {A B : Prop} (h : A) : if (!false) = true then A else B := by rw [if_pos (show (!false) = true from rfl)]; exact h
theorem rd_nF {A B : Prop} (h : B) : if false = true then A else B := by rw [if_neg Bool.false_ne_true]; exact h
theorem rd_nT {A B : Prop} (h : B) : if (!true) = true then A else B := by rw [if_neg (by decide)]; exact h
theorem rd_yesI {A B : Prop} (e : b = true) (h : A) : if b = true then A else B := by rw [if_pos e]; exact h
theorem rd_noI {A B : Prop} (e : b = false) (h : B) : if b = true then A else B := by rw [if_neg (by rw [e]; decide)]; exact h
theorem rd_dput {td ty tv : TE} (q : tv σ H fun v H1 => td σ H1 fun x H2 => ty σ H2 fun y H3 => ∃ a H4, x = .ref a ∧ DPut H3 a y v H4 ∧ D.nx σ H4) : sDPut td ty tv D σ H := q
theorem rd_putI {p : Addr} {kvs : List (Key × V)} {n : Int} {N : Hp → Prop} (h : H p = some (.dK kvs)) (l : kvs.length < sizeLine) (q : N (upd H p (.dK (putK kvs (Sum.inl n) v)))) : ∃ a H4, V.ref p = .ref a ∧ DPut H a (.int n) v H4 ∧ N H4 :=
  ⟨p, _, rfl, DPut.k (k := Sum.inl n) h l, q⟩
theorem rd_putS {p : Addr} {kvs : List (Key × V)} {n : Str} {N : Hp → Prop} (h : H p = some (.dK kvs)) (l : kvs.length < sizeLine) (q : N (upd H p (.dK (putK kvs (Sum.inr n) v)))) : ∃ a H4, V.ref p = .ref a ∧ DPut H a (.str n) v H4 ∧ N H4 :=
  ⟨p, _, rfl, DPut.k (k := Sum.inr n) h l, q⟩
theorem rd_dnew (q : ∀ p, H p = none → Q (.ref p) (upd H p (.dK []))) : tDNewK σ H Q := q
theorem rd_sortDI {p : Addr} {kvs : List (Key × V)} {ks : List Int} (h : H p = some (.dK kvs)) (e : kvs.map (·.1) = ks.map Sum.inl) (l : ks.length < 64) (q : ∀ (ys : List Int) (r : Addr), ys.Perm ks → ys.Pairwise (· ≤ ·) → H r = none → Q (.ref r) (upd H r (.lst (ys.map V.int)))) :
    xSortDI [V.ref p] H Q := ⟨p, kvs, ks, rfl, .of h, e, l, q⟩
theorem rd_tupL {p : Addr} {ys : List V} (h : SqL K H p ys) (q : ∀ l, H l = none → Q (.ref l) (upd H l (.tup ys))) : xTup K [V.ref p] H Q := ⟨p, ys, rfl, .inl ⟨h, q⟩⟩
theorem rd_tupT {p : Addr} {ys : List V} (h : SqT K H p ys) (q : Q (.ref p) H) : xTup K [V.ref p] H Q := ⟨p, ys, rfl, .inr ⟨h, q⟩⟩
theorem rd_lstL {p : Addr} {ys : List V} (h : SqL K H p ys) (q : ∀ l, H l = none → Q (.ref l) (upd H l (.lst ys))) : xList K [V.ref p] H Q := ⟨p, ys, rfl, .inl h, q⟩
theorem rd_lstT {p : Addr} {ys : List V} (h : SqT K H p ys) (q : ∀ l, H l = none → Q (.ref l) (upd H l (.lst ys))) : xList K [V.ref p] H Q := ⟨p, ys, rfl, .inr h, q⟩
/-! loops -/
variable {a : Addr} {xs ys : List V} {z : Str} {tt : TT} {vs : List Nat}
/-- a turn of a while -/
def WhT (m : Nat) (W : Nat → St → Hp → Prop) (s : TS) (D : Ends) (σ : St) (H : Hp) : Prop := ∃ N : St → Hp → Prop, (∀ σ' H', N σ' H' → ∃ m', m' < m ∧ W m' σ' H') ∧ s { D with nx := N, ct := N, bk := D.nx } σ H
/-- while, by a word W over a number that falls -/
theorem rd_while {tc : TT} (W : Nat → St → Hp → Prop) (m0 : Nat) (h0 : W m0 σ H)
    (hs : ∀ m σ H, W m σ H → tc σ H fun b H1 => if b = true then WhT m W s D σ H1 else D.nx σ H1) : tWhile tc s D σ H := ⟨W, ⟨m0, h0⟩, hs⟩
theorem rd_turn {m : Nat} {W : Nat → St → Hp → Prop} (q : s { D with nx := fun σ' H' => ∃ m', m' < m ∧ W m' σ' H', ct := fun σ' H' => ∃ m', m' < m ∧ W m' σ' H', bk := D.nx } σ H) : WhT m W s D σ H := ⟨_, fun _ _ h => h, q⟩
/-- what stands behind the walked thing in a for's reading -/
def ForW (J : It) (g : TG) (tb : TS) (D : Ends) (σ : St) (H : Hp) : Prop := ∃ W : Nat → Nat → St → Hp → Prop, (∃ m, W 0 m σ H) ∧ ∀ i m σ H, W i m σ H →
  (J.stop i H ∧ D.nx σ H) ∨ (J.go i H ∧ ∃ N : St → Hp → Prop, (∀ σ' H', N σ' H' → ∃ m', m' < m ∧ W (i + 1) m' σ' H') ∧ ∀ x H', J.yld i H x H' → g x σ H' fun σ2 H2 => tb { D with nx := N, ct := N, bk := D.nx } σ2 H2)
theorem rd_forL (q : te σ H fun x H1 => ∃ a, x = .ref a ∧ (∃ xs, SqL K H1 a xs) ∧ ForW (Itl K a) g s D σ H1) : tFor (iAny K te) g s D σ H := .inl q
theorem rd_forT (q : te σ H fun x H1 => ∃ a, x = .ref a ∧ (∃ xs, SqT K H1 a xs) ∧ ForW (Itt K a) g s D σ H1) : tFor (iAny K te) g s D σ H := .inr (.inl q)
theorem rd_forS (q : te σ H fun v H1 => ∃ x, v = .str x ∧ ForW (Its x) g s D σ H1) : tFor (iAny K te) g s D σ H := .inr (.inr q)
theorem rd_forR (q : tA σ H fun vs H1 => ∃ j : Int, vs = [.int j] ∧ -(2 ^ 62) ≤ j ∧ j < 2 ^ 62 ∧ ForW (Itr 0 j.toNat) g s D σ H1) : tFor (iRng1 tA) g s D σ H := q
theorem rd_forR2 (q : tA σ H fun vs H1 => ∃ i j : Int, vs = [.int i, .int j] ∧ (-(2 ^ 62) ≤ i ∧ i < 2 ^ 62 ∧ -(2 ^ 62) ≤ j ∧ j < 2 ^ 62) ∧ ForW (Itr i (j - i).toNat) g s D σ H1) : tFor (iRng2 tA) g s D σ H := q
theorem rd_itL (h : SqL K H a xs) (Pv : Nat → St → Hp → Prop) (h0 : Pv 0 σ H) (hl : ∀ i σ H, i ≤ xs.length → Pv i σ H → SqL K H a xs)
    (hs : ∀ i x σ H, xs[i]? = some x → Pv i σ H → g x σ H fun σ2 H2 => s { D with nx := Pv (i + 1), ct := Pv (i + 1), bk := D.nx } σ2 H2) (hd : ∀ σ H, Pv xs.length σ H → D.nx σ H) :
    ∃ b, V.ref a = .ref b ∧ (∃ xs, SqL K H b xs) ∧ ForW (Itl K b) g s D σ H := ⟨a, rfl, ⟨xs, h⟩, for_list Pv h0 hl hs hd⟩
theorem rd_itT (h : SqT K H a xs) (Pv : Nat → St → Hp → Prop) (h0 : Pv 0 σ H) (hl : ∀ i σ H, i ≤ xs.length → Pv i σ H → SqT K H a xs)
    (hs : ∀ i x σ H, xs[i]? = some x → Pv i σ H → g x σ H fun σ2 H2 => s { D with nx := Pv (i + 1), ct := Pv (i + 1), bk := D.nx } σ2 H2) (hd : ∀ σ H, Pv xs.length σ H → D.nx σ H) :
    ∃ b, V.ref a = .ref b ∧ (∃ xs, SqT K H b xs) ∧ ForW (Itt K b) g s D σ H := ⟨a, rfl, ⟨xs, h⟩, for_tup Pv h0 hl hs hd⟩
theorem rd_itS (Pv : Nat → St → Hp → Prop) (h0 : Pv 0 σ H)
    (hs : ∀ i c σ H, z.cps[i]? = some c → Pv i σ H → g (.str ⟨#[c]⟩) σ H fun σ2 H2 => s { D with nx := Pv (i + 1), ct := Pv (i + 1), bk := D.nx } σ2 H2) (hd : ∀ σ H, Pv z.cps.size σ H → D.nx σ H) :
    ∃ x, V.str z = .str x ∧ ForW (Its x) g s D σ H := by
  refine ⟨z, rfl, for_it walk_str Pv h0 (fun _ _ _ _ _ => trivial) ?_ hd⟩
  rintro i x σ1 H1 H2 hi hP ⟨rfl, c, hc, rfl⟩
  exact hs i c σ1 H2 hc hP
theorem rd_itR {n : Int} (b0 : -(2 ^ 62) ≤ n) (b1 : n < 2 ^ 62) (Pv : Nat → St → Hp → Prop) (h0 : Pv 0 σ H)
    (hs : ∀ (i : Nat) σ H, (i : Int) < n → Pv i σ H → g (.int (i : Int)) σ H fun σ2 H2 => s { D with nx := Pv (i + 1), ct := Pv (i + 1), bk := D.nx } σ2 H2) (hd : ∀ σ H, Pv n.toNat σ H → D.nx σ H) :
    ∃ j : Int, [V.int n] = [.int j] ∧ -(2 ^ 62) ≤ j ∧ j < 2 ^ 62 ∧ ForW (Itr 0 j.toNat) g s D σ H := by
  refine ⟨n, rfl, b0, b1, for_range Pv h0 ?_ hd⟩
  intro i σ1 H1 hi hP
  rw [Int.zero_add]
  exact hs i σ1 H1 (by omega) hP
theorem rd_itR2 {m n : Int} (b : -(2 ^ 62) ≤ m ∧ m < 2 ^ 62 ∧ -(2 ^ 62) ≤ n ∧ n < 2 ^ 62) (Pv : Nat → St → Hp → Prop) (h0 : Pv 0 σ H)
    (hs : ∀ (i : Nat) σ H, m + (i : Int) < n → Pv i σ H → g (.int (m + (i : Int))) σ H fun σ2 H2 => s { D with nx := Pv (i + 1), ct := Pv (i + 1), bk := D.nx } σ2 H2) (hd : ∀ σ H, Pv (n - m).toNat σ H → D.nx σ H) :
    ∃ i j : Int, [V.int m, V.int n] = [.int i, .int j] ∧ (-(2 ^ 62) ≤ i ∧ i < 2 ^ 62 ∧ -(2 ^ 62) ≤ j ∧ j < 2 ^ 62) ∧ ForW (Itr i (j - i).toNat) g s D σ H :=
  ⟨m, n, rfl, b, for_range Pv h0 (fun i σ1 H1 hi hP => hs i σ1 H1 (by omega) hP) hd⟩
theorem rd_forE (q : tA σ H fun vs H1 => ∃ a xs, vs = [.ref a] ∧ SqL K H1 a xs ∧ ForW (Ite K a) g s D σ H1) : tFor (iEnum K tA) g s D σ H := q
theorem rd_forZ (q : tA σ H fun vs H1 => ∃ a b xs ys, vs = [.ref a, .ref b] ∧ SqL K H1 a xs ∧ SqL K H1 b ys ∧ ForW (Itz K a b) g s D σ H1) : tFor (iZip K tA) g s D σ H := q
theorem rd_itE (h : SqL K H a xs) (Pv : Nat → St → Hp → Prop) (h0 : Pv 0 σ H) (hl : ∀ i σ H, i ≤ xs.length → Pv i σ H → SqL K H a xs)
    (hs : ∀ i x T σ H, xs[i]? = some x → Pv i σ H → H T = none → g (.ref T) σ (upd H T (.tup [.int (i : Int), x])) fun σ2 H2 => s { D with nx := Pv (i + 1), ct := Pv (i + 1), bk := D.nx } σ2 H2) (hd : ∀ σ H, Pv xs.length σ H → D.nx σ H) :
    ∃ b ys, [V.ref a] = [.ref b] ∧ SqL K H b ys ∧ ForW (Ite K b) g s D σ H := by
  refine ⟨a, xs, rfl, h, for_it walk_enum Pv h0 hl ?_ hd⟩
  rintro i x σ1 H1 H2 hi hP ⟨T, u, y, rfl, hT, rfl, hu, hy⟩
  cases hu
  exact hs i y T σ1 H1 hy hP hT
theorem rd_itZ {b : Addr} (h : SqL K H a xs) (h' : SqL K H b ys) {n : Nat} (hn : n = min xs.length ys.length) (Pv : Nat → St → Hp → Prop) (h0 : Pv 0 σ H) (hl : ∀ i σ H, i ≤ n → Pv i σ H → SqL K H a xs ∧ SqL K H b ys)
    (hs : ∀ i x y T σ H, xs[i]? = some x → ys[i]? = some y → Pv i σ H → H T = none → g (.ref T) σ (upd H T (.tup [x, y])) fun σ2 H2 => s { D with nx := Pv (i + 1), ct := Pv (i + 1), bk := D.nx } σ2 H2) (hd : ∀ σ H, Pv n σ H → D.nx σ H) :
    ∃ c d us vs, [V.ref a, V.ref b] = [.ref c, .ref d] ∧ SqL K H c us ∧ SqL K H d vs ∧ ForW (Itz K c d) g s D σ H := by
  refine ⟨a, b, xs, ys, rfl, h, h', for_it (walk_zip hn) Pv h0 hl ?_ hd⟩
  rintro i x σ1 H1 H2 hi hP ⟨T, u, y, rfl, hT, rfl, hu, hy⟩
  exact hs i u y T σ1 H1 hu hy hP hT
/-- what stands behind the walked thing in a comprehension's reading -/
def LcW (J : It) (g : TG) (tt : TT) (te : TE) (vs : List Nat) (σ : St) (H1 : Hp) (Q : VK) : Prop := ∀ D, H1 D = none → ∃ W : Nat → Nat → Hp → Prop, (∃ m, W 0 m (upd H1 D (.lst []))) ∧ ∀ i m H, W i m H →
  (J.stop i H ∧ Q (.ref D) H) ∨ (J.go i H ∧ ∃ Nx : Hp → Prop, (∀ H', Nx H' → ∃ m', m' < m ∧ W (i + 1) m' H') ∧ ∀ x H', J.yld i H x H' → g x (wipe σ vs) H' fun σ2 H2 => wipe σ2 vs = wipe σ vs ∧ tt σ2 H2 fun b H3 =>
    if b = true then te σ2 H3 fun y H4 => ∃ acc, H4 D = some (.lst acc) ∧ acc.length < sizeLine ∧ Nx (upd H4 D (.lst (acc ++ [y]))) else Nx H3)
theorem rd_lcL (q : ta σ H fun x H1 => ∃ a, x = .ref a ∧ (∃ xs, SqL K H1 a xs) ∧ LcW (Itl K a) g tt te vs σ H1 Q) : tLc (iAny K ta) g tt te vs σ H Q := .inl q
theorem rd_lcT (q : ta σ H fun x H1 => ∃ a, x = .ref a ∧ (∃ xs, SqT K H1 a xs) ∧ LcW (Itt K a) g tt te vs σ H1 Q) : tLc (iAny K ta) g tt te vs σ H Q := .inr (.inl q)
theorem rd_lcS (q : ta σ H fun x H1 => ∃ z, x = .str z ∧ LcW (Its z) g tt te vs σ H1 Q) : tLc (iAny K ta) g tt te vs σ H Q := .inr (.inr q)
theorem rd_lcR (q : tA σ H fun ws H1 => ∃ j : Int, ws = [.int j] ∧ -(2 ^ 62) ≤ j ∧ j < 2 ^ 62 ∧ LcW (Itr 0 j.toNat) g tt te vs σ H1 Q) : tLc (iRng1 tA) g tt te vs σ H Q := q
theorem rd_lcR2 (q : tA σ H fun ws H1 => ∃ i j : Int, ws = [.int i, .int j] ∧ (-(2 ^ 62) ≤ i ∧ i < 2 ^ 62 ∧ -(2 ^ 62) ≤ j ∧ j < 2 ^ 62) ∧ LcW (Itr i (j - i).toNat) g tt te vs σ H1 Q) : tLc (iRng2 tA) g tt te vs σ H Q := q
/-- one turn of a comprehension: the target, the test, the element, the list grown at D -/
def LcT (g : TG) (tt : TT) (te : TE) (vs : List Nat) (σ : St) (D : Addr) (N : Hp → Prop) (x : V) (H : Hp) : Prop :=
  g x (wipe σ vs) H fun σ2 H2 => wipe σ2 vs = wipe σ vs ∧ tt σ2 H2 fun b H3 => if b = true then te σ2 H3 fun y H4 => ∃ acc, H4 D = some (.lst acc) ∧ acc.length < sizeLine ∧ N (upd H4 D (.lst (acc ++ [y]))) else N H3
theorem rd_lcT1 {D : Addr} {N : Hp → Prop} (q : g x (wipe σ vs) H fun σ2 H2 => wipe σ2 vs = wipe σ vs ∧ tt σ2 H2 fun b H3 => if b = true then te σ2 H3 fun y H4 => ∃ acc, H4 D = some (.lst acc) ∧ acc.length < sizeLine ∧ N (upd H4 D (.lst (acc ++ [y]))) else N H3) :
    LcT g tt te vs σ D N x H := q
/-- what holds between two turns: what stands stays by R, the list at D is what A says -/
theorem lc_by {J : It} {n : Nat} {G : Hp → Prop} {Y : Nat → Hp → V → Hp → Prop} (w : Walk J n G Y) (Pv : Addr → Nat → Hp → Prop) (h0 : ∀ D, H D = none → Pv D 0 (upd H D (.lst []))) (hG : ∀ D i H', H D = none → i ≤ n → Pv D i H' → G H')
    (hs : ∀ D i x H1 H2, H D = none → i < n → Pv D i H1 → Y i H1 x H2 → LcT g tt te vs σ D (Pv D (i + 1)) x H2) (hd : ∀ D H', H D = none → Pv D n H' → Q (.ref D) H') : LcW J g tt te vs σ H Q := by
  intro D hD
  exact lc_it w (Pv D) (h0 D hD) (fun i H' hi hP => hG D i H' hD hi hP) (fun i x H1 H2 hi hP hY => hs D i x H1 H2 hD hi hP hY) fun H' hP => hd D H' hD hP
theorem rd_clL (h : SqL K H a xs) (Pv : Addr → Nat → Hp → Prop) (h0 : ∀ D, H D = none → Pv D 0 (upd H D (.lst []))) (hG : ∀ D i H', H D = none → i ≤ xs.length → Pv D i H' → SqL K H' a xs)
    (hs : ∀ D i x H', H D = none → xs[i]? = some x → Pv D i H' → LcT g tt te vs σ D (Pv D (i + 1)) x H') (hd : ∀ D H', H D = none → Pv D xs.length H' → Q (.ref D) H') :
    ∃ b, V.ref a = .ref b ∧ (∃ xs, SqL K H b xs) ∧ LcW (Itl K b) g tt te vs σ H Q := by
  refine ⟨a, rfl, ⟨xs, h⟩, lc_by walk_list Pv h0 hG ?_ hd⟩
  rintro D i x H1 H2 hD hi hP ⟨rfl, hx⟩
  exact hs D i x H2 hD hx hP
theorem rd_clT (h : SqT K H a xs) (Pv : Addr → Nat → Hp → Prop) (h0 : ∀ D, H D = none → Pv D 0 (upd H D (.lst []))) (hG : ∀ D i H', H D = none → i ≤ xs.length → Pv D i H' → SqT K H' a xs)
    (hs : ∀ D i x H', H D = none → xs[i]? = some x → Pv D i H' → LcT g tt te vs σ D (Pv D (i + 1)) x H') (hd : ∀ D H', H D = none → Pv D xs.length H' → Q (.ref D) H') :
    ∃ b, V.ref a = .ref b ∧ (∃ xs, SqT K H b xs) ∧ LcW (Itt K b) g tt te vs σ H Q := by
  refine ⟨a, rfl, ⟨xs, h⟩, lc_by walk_tup Pv h0 hG ?_ hd⟩
  rintro D i x H1 H2 hD hi hP ⟨rfl, hx⟩
  exact hs D i x H2 hD hx hP
theorem rd_lcE (q : tA σ H fun ws H1 => ∃ a xs, ws = [.ref a] ∧ SqL K H1 a xs ∧ LcW (Ite K a) g tt te vs σ H1 Q) : tLc (iEnum K tA) g tt te vs σ H Q := q
theorem rd_lcZ (q : tA σ H fun ws H1 => ∃ a b xs ys, ws = [.ref a, .ref b] ∧ SqL K H1 a xs ∧ SqL K H1 b ys ∧ LcW (Itz K a b) g tt te vs σ H1 Q) : tLc (iZip K tA) g tt te vs σ H Q := q
theorem rd_clE (h : SqL K H a xs) (Pv : Addr → Nat → Hp → Prop) (h0 : ∀ D, H D = none → Pv D 0 (upd H D (.lst []))) (hG : ∀ D i H', H D = none → i ≤ xs.length → Pv D i H' → SqL K H' a xs)
    (hs : ∀ D i x T H', H D = none → xs[i]? = some x → Pv D i H' → H' T = none → LcT g tt te vs σ D (Pv D (i + 1)) (.ref T) (upd H' T (.tup [.int (i : Int), x]))) (hd : ∀ D H', H D = none → Pv D xs.length H' → Q (.ref D) H') :
    ∃ b ys, [V.ref a] = [.ref b] ∧ SqL K H b ys ∧ LcW (Ite K b) g tt te vs σ H Q := by
  refine ⟨a, xs, rfl, h, lc_by walk_enum Pv h0 hG ?_ hd⟩
  rintro D i x H1 H2 hD hi hP ⟨T, u, y, rfl, hT, rfl, hu, hy⟩
  cases hu
  exact hs D i y T H1 hD hy hP hT
theorem rd_clZ {b : Addr} (h : SqL K H a xs) (h' : SqL K H b ys) {n : Nat} (hn : n = min xs.length ys.length) (Pv : Addr → Nat → Hp → Prop) (h0 : ∀ D, H D = none → Pv D 0 (upd H D (.lst []))) (hG : ∀ D i H', H D = none → i ≤ n → Pv D i H' → SqL K H' a xs ∧ SqL K H' b ys)
    (hs : ∀ D i x y T H', H D = none → xs[i]? = some x → ys[i]? = some y → Pv D i H' → H' T = none → LcT g tt te vs σ D (Pv D (i + 1)) (.ref T) (upd H' T (.tup [x, y]))) (hd : ∀ D H', H D = none → Pv D n H' → Q (.ref D) H') :
    ∃ c d us ws, [V.ref a, V.ref b] = [.ref c, .ref d] ∧ SqL K H c us ∧ SqL K H d ws ∧ LcW (Itz K c d) g tt te vs σ H Q := by
  refine ⟨a, b, xs, ys, rfl, h, h', lc_by (walk_zip hn) Pv h0 hG ?_ hd⟩
  rintro D i x H1 H2 hD hi hP ⟨T, u, y, rfl, hT, rfl, hu, hy⟩
  exact hs D i u y T H1 hD hu hy hP hT
theorem rd_clS (Pv : Addr → Nat → Hp → Prop) (h0 : ∀ D, H D = none → Pv D 0 (upd H D (.lst [])))
    (hs : ∀ D i c H', H D = none → z.cps[i]? = some c → Pv D i H' → LcT g tt te vs σ D (Pv D (i + 1)) (.str ⟨#[c]⟩) H') (hd : ∀ D H', H D = none → Pv D z.cps.size H' → Q (.ref D) H') :
    ∃ y, V.str z = .str y ∧ LcW (Its y) g tt te vs σ H Q := by
  refine ⟨z, rfl, lc_by walk_str Pv h0 (fun _ _ _ _ _ _ => trivial) ?_ hd⟩
  rintro D i x H1 H2 hD hi hP ⟨rfl, c, hc, rfl⟩
  exact hs D i c H2 hD hc hP
theorem rd_clR {n : Int} (b0 : -(2 ^ 62) ≤ n) (b1 : n < 2 ^ 62) (Pv : Addr → Nat → Hp → Prop) (h0 : ∀ D, H D = none → Pv D 0 (upd H D (.lst [])))
    (hs : ∀ D (i : Nat) H', H D = none → (i : Int) < n → Pv D i H' → LcT g tt te vs σ D (Pv D (i + 1)) (.int (i : Int)) H') (hd : ∀ D H', H D = none → Pv D n.toNat H' → Q (.ref D) H') :
    ∃ j : Int, [V.int n] = [.int j] ∧ -(2 ^ 62) ≤ j ∧ j < 2 ^ 62 ∧ LcW (Itr 0 j.toNat) g tt te vs σ H Q := by
  refine ⟨n, rfl, b0, b1, lc_by walk_range Pv h0 (fun _ _ _ _ _ _ => trivial) ?_ hd⟩
  rintro D i x H1 H2 hD hi hP ⟨rfl, rfl⟩
  show LcT g tt te vs σ D (Pv D (i + 1)) (V.int (0 + (i : Int))) H2
  rw [Int.zero_add]
  exact hs D i H2 hD (by omega) hP
theorem rd_clR2 {m n : Int} (b : -(2 ^ 62) ≤ m ∧ m < 2 ^ 62 ∧ -(2 ^ 62) ≤ n ∧ n < 2 ^ 62) (Pv : Addr → Nat → Hp → Prop) (h0 : ∀ D, H D = none → Pv D 0 (upd H D (.lst [])))
    (hs : ∀ D (i : Nat) H', H D = none → m + (i : Int) < n → Pv D i H' → LcT g tt te vs σ D (Pv D (i + 1)) (.int (m + (i : Int))) H') (hd : ∀ D H', H D = none → Pv D (n - m).toNat H' → Q (.ref D) H') :
    ∃ i j : Int, [V.int m, V.int n] = [.int i, .int j] ∧ (-(2 ^ 62) ≤ i ∧ i < 2 ^ 62 ∧ -(2 ^ 62) ≤ j ∧ j < 2 ^ 62) ∧ LcW (Itr i (j - i).toNat) g tt te vs σ H Q := by
  refine ⟨m, n, rfl, b, lc_by walk_range Pv h0 (fun _ _ _ _ _ _ => trivial) ?_ hd⟩
  rintro D i x H1 H2 hD hi hP ⟨rfl, rfl⟩
  exact hs D i H2 hD (by omega) hP
end
end Mine

/-! ## Texts and drawn things -/
namespace Mine
open PySem PySem.Spec PyProof.Rows L2
open TL (tl spl pre spl_nil spl_hit spl_miss split_spl)
set_option linter.all false
theorem len_tl (z : Str) : (tl z).length = z.length := by
  show z.cps.toList.length = z.cps.size
  simp
theorem str_ext {a b : Str} (h : tl a = tl b) : a = b := by
  obtain ⟨⟨a⟩⟩ := a
  obtain ⟨⟨b⟩⟩ := b
  have h' : a = b := h
  rw [h']
theorem tl_app (a b : Str) : tl (a ++ b) = tl a ++ tl b := by
  show (a ++ b).cps.toList = _
  rw [show (a ++ b).cps = a.cps ++ b.cps from rfl, Array.toList_append]
theorem len_app (a b : Str) : (a ++ b).length = a.length + b.length := by rw [← len_tl, tl_app, List.length_append, len_tl, len_tl]
theorem tl_cut (z : Str) (lo hi : Option Int) : tl (cutS z lo hi) = ((tl z).drop (HT.sIx z.length 0 lo)).take (HT.sIx z.length z.length hi - HT.sIx z.length 0 lo) := by
  show (cutS z lo hi).cps.toList = _
  unfold cutS
  simp
theorem tl_take (z : Str) (k : Nat) : tl (cutS z none (some (k : Int))) = (tl z).take k := by
  rw [tl_cut, HT.sIx_none, List.drop_zero, Nat.sub_zero, HT.sIx_nat]
  by_cases h : k ≤ z.length
  · rw [Nat.min_eq_left h]
  · rw [Nat.min_eq_right (by omega), List.take_of_length_le (by rw [len_tl]; exact Nat.le_refl _), List.take_of_length_le (by rw [len_tl]; omega)]
theorem tl_drop (z : Str) (k : Nat) : tl (cutS z (some (k : Int)) none) = (tl z).drop k := by
  rw [tl_cut, HT.sIx_none, HT.sIx_nat]
  by_cases h : k ≤ z.length
  · rw [Nat.min_eq_left h, List.take_of_length_le (by rw [List.length_drop, len_tl]; exact Nat.le_refl _)]
  · rw [Nat.min_eq_right (by omega), List.drop_of_length_le (by rw [len_tl]; exact Nat.le_refl _), List.take_nil, List.drop_of_length_le (by rw [len_tl]; omega)]
theorem cut_take {z : Str} {i : Int} (h0 : 0 ≤ i) : (cutS z none (some i)).length = min i.toNat z.length := by
  obtain ⟨k, rfl⟩ : ∃ k : Nat, i = (k : Int) := ⟨i.toNat, by omega⟩
  rw [← len_tl, tl_take, List.length_take, len_tl]
  rfl
theorem cut_drop {z : Str} {i : Int} (h0 : 0 ≤ i) : (cutS z (some i) none).length = z.length - i.toNat := by
  obtain ⟨k, rfl⟩ : ∃ k : Nat, i = (k : Int) := ⟨i.toNat, by omega⟩
  rw [← len_tl, tl_drop, List.length_drop, len_tl]
  rfl
/-- a text of at most so many signs -/
def strLe (L : Nat) : V → Bool
  | .str z => decide (z.length ≤ L)
  | _ => false
theorem strLe_str {L : Nat} {x : V} (h : strLe L x = true) : ∃ z, x = .str z ∧ z.length ≤ L := by
  cases x with
  | str z => exact ⟨z, rfl, of_decide_eq_true h⟩
  | _ => cases h
theorem atI_mem {xs : List V} {v : Int} (h0 : 0 ≤ v) (h1 : v < xs.length) : ∃ x, x ∈ xs ∧ atI xs v = some x := by
  obtain ⟨j, rfl⟩ : ∃ j : Nat, v = (j : Int) := ⟨v.toNat, by omega⟩
  have hj : j < xs.length := by omega
  exact ⟨xs[j], List.getElem_mem hj, atI_nat (List.getElem?_eq_getElem hj)⟩
/-- an item of a list, whichever -/
theorem pick {K : PySem.W.Frag} {p : Addr} {xs : List V} {v : Int} {H : Hp} {Q : VK} (h : SqL K H p xs) (h0 : 0 ≤ v) (h1 : v < xs.length) (q : ∀ x, x ∈ xs → Q x H) : xIx K (.ref p) (.int v) H Q := by
  obtain ⟨x, hx, e⟩ := atI_mem h0 h1
  exact rd_ixL h e (q x hx)
theorem pickT {K : PySem.W.Frag} {p : Addr} {xs : List V} {v : Int} {H : Hp} {Q : VK} (h : SqT K H p xs) (h0 : 0 ≤ v) (h1 : v < xs.length) (q : ∀ x, x ∈ xs → Q x H) : xIx K (.ref p) (.int v) H Q := by
  obtain ⟨x, hx, e⟩ := atI_mem h0 h1
  exact rd_ixT h e (q x hx)
theorem pickS {K : PySem.W.Frag} {p : Addr} {xs : List V} {v : Int} {H : Hp} {Q : VK} (L : Nat) (h : SqL K H p xs) (h0 : 0 ≤ v) (h1 : v < xs.length) (hL : xs.all (strLe L) = true) (q : ∀ z, z.length ≤ L → Q (.str z) H) : xIx K (.ref p) (.int v) H Q := by
  refine pick h h0 h1 fun x hx => ?_
  obtain ⟨z, rfl, hz⟩ := strLe_str (List.all_eq_true.mp hL x hx)
  exact q z hz
theorem join_le (sep : Str) (ys : List Str) (L : Nat) (h : ∀ y ∈ ys, y.length ≤ L) : (ys.map (·.length)).sum ≤ ys.length * L := by
  induction ys with
  | nil => exact Nat.zero_le _
  | cons y ys ih =>
    have h1 := h y List.mem_cons_self
    have h2 := ih fun z hz => h z (List.mem_cons_of_mem _ hz)
    rw [List.map_cons, List.sum_cons, List.length_cons, Nat.add_mul, Nat.one_mul]
    omega
theorem len_join (sep : Str) (ys : List Str) : (Txt.join sep ys).length ≤ (ys.map (·.length)).sum + ys.length * sep.length := by
  show (Builtin.Str.glued sep ys).length ≤ _
  rw [StrLaws.glued_eq_join]
  exact StrLaws.join_length_le sep ys
theorem spl_len {S : List Nat} : ∀ (l : List Nat) (k : Nat) (acc : List Nat), (∀ p ∈ spl S k acc l, p.length ≤ acc.length + l.length) ∧ (spl S k acc l).length ≤ l.length + 1
  | [], k, acc => by
    rw [spl_nil]
    exact ⟨fun p hp => by rw [List.mem_singleton.mp hp]; exact Nat.le_add_right _ _, Nat.le_refl _⟩
  | c :: r, 0, acc => by
    cases h : pre S (c :: r) with
    | true =>
      rw [spl_hit h]
      obtain ⟨h1, h2⟩ := spl_len (S := S) r (S.length - 1) []
      refine ⟨fun p hp => ?_, by rw [List.length_cons, List.length_cons]; omega⟩
      rcases List.mem_cons.mp hp with rfl | hp
      · exact Nat.le_add_right _ _
      · have := h1 p hp
        rw [List.length_nil] at this
        rw [List.length_cons]
        omega
    | false =>
      rw [spl_miss h]
      obtain ⟨h1, h2⟩ := spl_len (S := S) r 0 (acc ++ [c])
      refine ⟨fun p hp => ?_, by rw [List.length_cons]; omega⟩
      have := h1 p hp
      rw [List.length_append, List.length_singleton] at this
      rw [List.length_cons]
      omega
  | c :: r, k + 1, acc => by
    show (∀ p ∈ spl S k acc r, _) ∧ (spl S k acc r).length ≤ _
    obtain ⟨h1, h2⟩ := spl_len (S := S) r k acc
    refine ⟨fun p hp => ?_, by rw [List.length_cons]; omega⟩
    have := h1 p hp
    rw [List.length_cons]
    omega
/-- the parts of a text, the sign between them below 256 -/
theorem split_len {z y : Str} (hy : tl y ≠ []) (hk : y.cps.all (· < 256) = true) : (∀ w ∈ Txt.split z y, w.length ≤ z.length) ∧ (Txt.split z y).length ≤ z.length + 1 := by
  have k1 : Builtin.Str.strKind y = 1 := by
    unfold Builtin.Str.strKind
    rw [if_pos hk]
  have k2 : ¬ Builtin.Str.strKind z < Builtin.Str.strKind y := by
    rw [k1]
    unfold Builtin.Str.strKind
    split
    · omega
    · split <;> omega
  have e := split_spl z y hy k2
  obtain ⟨h1, h2⟩ := spl_len (S := tl y) (tl z) 0 []
  rw [← e] at h1 h2
  constructor
  · intro w hw
    have := h1 (tl w) (List.mem_map_of_mem hw)
    rw [List.length_nil, Nat.zero_add, len_tl, len_tl] at this
    exact this
  · rw [List.length_map, len_tl] at h2
    exact h2
theorem szOk {n : Nat} (h : n ≤ 1000000) : n ≤ sizeLine := Nat.le_trans h (by decide)
theorem szLt {n : Nat} (h : n ≤ 1000000) : n < sizeLine := Nat.lt_of_le_of_lt h (by decide)
/-- bools shown in a list -/
def bools (bs : List Bool) : PyData := .list (bs.map .bool)
theorem dp_bools {K : PySem.W.Frag} {H : Hp} : ∀ bs : List Bool, DpAll K H (bs.map V.bl) (bs.map .bool)
  | [] => .nil
  | b :: bs => .cons (.bl b) (dp_bools bs)
theorem _root_.L2.Same.new {H H' : Hp} {p : Addr} {o : HO} (a : Same H H') (h : H' p = none) : Same H (upd H' p o) := fun c u e => by
  rw [upd_ne (ne_of_none (a c u e) h)]
  exact a c u e
theorem _root_.L2.Same.put {H H' : Hp} {p : Addr} {o : HO} (a : Same H H') (h : H p = none) : Same H (upd H' p o) := fun c u e => by
  rw [upd_ne (ne_of_none e h)]
  exact a c u e
theorem _root_.L2.Same.there {H H' : Hp} {p : Addr} {o : HO} (k : Same (upd H p o) H') : H' p = some o := k p _ upd_same
theorem sm_tup {K : PySem.W.Frag} {H H' : Hp} {a : Addr} {xs : List V} (e : Same H H') (h : SqT K H a xs) : SqT K H' a xs := by
  rcases h with (h | ⟨o, h⟩) | h
  · exact .inl (.inl (e _ _ h))
  · exact .inl (.inr ⟨o, e _ _ h⟩)
  · exact .inr h
/-! ### comprehensions that change nothing: [f x for x in .. if p x] -/
section
variable {K : PySem.W.Frag} {J : It} {xs : List V} {G : Hp → Prop} {tt : TT} {te : TE} {vs : List Nat} {σ : St} {H : Hp} {Q : VK} {j : Nat} {a : Addr} {z : Str}
/-- reads and makes new things alone: b at the end -/
def Pt (t : TT) (σ : St) (H : Hp) (b : Bool) : Prop := ∀ H1, Same H H1 → ∀ QE : Bool → Hp → Prop, (∀ H2, Same H1 H2 → QE b H2) → t σ H1 QE
def Pe (t : TE) (σ : St) (H : Hp) (v : V) : Prop := ∀ H1, Same H H1 → ∀ QE : VK, (∀ H2, Same H1 H2 → QE v H2) → t σ H1 QE
theorem pt_yes : Pt tYes σ H true := fun H1 _ QE q => q H1 (Same.refl H1)
theorem lc_pure (w : Walk J xs.length G (YAt xs)) (hG : ∀ H', Same H H' → G H') (p : V → Bool) (f : V → V) (hw : ∀ x, wipe ((wipe σ vs).set j (some x)) vs = wipe σ vs) (hl : xs.length ≤ 1000000)
    (ht : ∀ x, x ∈ xs → Pt tt ((wipe σ vs).set j (some x)) H (p x)) (he : ∀ x, x ∈ xs → p x = true → Pe te ((wipe σ vs).set j (some x)) H (f x))
    (hd : ∀ D H', H D = none → Same H H' → H' D = some (.lst ((xs.filter p).map f)) → Q (.ref D) H') : LcW J (gName j) tt te vs σ H Q := by
  refine lc_by w (fun D i H' => Same H H' ∧ H' D = some (.lst (((xs.take i).filter p).map f))) (fun D hD => ⟨(Same.refl H).new hD, upd_same⟩) (fun D i H' _ _ h => hG H' h.1) ?_ (fun D H' hD h => hd D H' hD h.1 (by have := h.2; rwa [List.take_length] at this))
  rintro D i x H1 H2 hD hi ⟨hS, hD1⟩ ⟨rfl, hx⟩
  have mem : x ∈ xs := List.mem_of_getElem? hx
  have grow : xs.take (i + 1) = xs.take i ++ [x] := by rw [List.take_add_one, hx]; rfl
  refine ⟨hw x, ht x mem H2 hS _ fun H3 s3 => ?_⟩
  cases hp : p x with
  | true =>
    refine rd_yT (he x mem hp H3 (hS.trans s3) _ fun H4 s4 => ?_)
    refine ⟨_, s4 _ _ (s3 _ _ hD1), szLt ?_, ((hS.trans s3).trans s4).put hD, ?_⟩
    · rw [List.length_map]
      have h1 := List.length_filter_le p (xs.take i)
      rw [List.length_take] at h1
      omega
    · rw [upd_same, grow, List.filter_append, List.map_append]
      simp [hp]
  | false =>
    refine rd_nF ⟨hS.trans s3, ?_⟩
    rw [s3 _ _ hD1, grow, List.filter_append]
    simp [hp]
theorem rd_mapL (h : SqL K H a xs) (p : V → Bool) (f : V → V) (hw : ∀ x, wipe ((wipe σ vs).set j (some x)) vs = wipe σ vs) (hl : xs.length ≤ 1000000)
    (ht : ∀ x, x ∈ xs → Pt tt ((wipe σ vs).set j (some x)) H (p x)) (he : ∀ x, x ∈ xs → p x = true → Pe te ((wipe σ vs).set j (some x)) H (f x))
    (hd : ∀ D H', H D = none → Same H H' → H' D = some (.lst ((xs.filter p).map f)) → Q (.ref D) H') : ∃ b, V.ref a = .ref b ∧ (∃ xs, SqL K H b xs) ∧ LcW (Itl K b) (gName j) tt te vs σ H Q :=
  ⟨a, rfl, ⟨xs, h⟩, lc_pure walk_list (fun H' e => e.seq h) p f hw hl ht he hd⟩
theorem rd_mapT (h : SqT K H a xs) (p : V → Bool) (f : V → V) (hw : ∀ x, wipe ((wipe σ vs).set j (some x)) vs = wipe σ vs) (hl : xs.length ≤ 1000000)
    (ht : ∀ x, x ∈ xs → Pt tt ((wipe σ vs).set j (some x)) H (p x)) (he : ∀ x, x ∈ xs → p x = true → Pe te ((wipe σ vs).set j (some x)) H (f x))
    (hd : ∀ D H', H D = none → Same H H' → H' D = some (.lst ((xs.filter p).map f)) → Q (.ref D) H') : ∃ b, V.ref a = .ref b ∧ (∃ xs, SqT K H b xs) ∧ LcW (Itt K b) (gName j) tt te vs σ H Q :=
  ⟨a, rfl, ⟨xs, h⟩, lc_pure walk_tup (fun H' e => sm_tup e h) p f hw hl ht he hd⟩
/-- the signs of a text, each as a text -/
def signs (z : Str) : List V := z.cps.toList.map fun c => .str ⟨#[c]⟩
theorem walk_signs : Walk (Its z) (signs z).length (fun _ => True) (YAt (signs z)) := by
  have e : (signs z).length = z.cps.size := by unfold signs; simp
  rw [e]
  refine walk_str.mono (fun _ h => h) ?_
  rintro i H1 x H2 hi _ ⟨rfl, c, hc, rfl⟩
  refine ⟨rfl, ?_⟩
  unfold signs
  rw [List.getElem?_map, Array.getElem?_toList, hc]
  rfl
theorem rd_mapS (p : V → Bool) (f : V → V) (hw : ∀ x, wipe ((wipe σ vs).set j (some x)) vs = wipe σ vs) (hl : z.length ≤ 1000000)
    (ht : ∀ x, x ∈ signs z → Pt tt ((wipe σ vs).set j (some x)) H (p x)) (he : ∀ x, x ∈ signs z → p x = true → Pe te ((wipe σ vs).set j (some x)) H (f x))
    (hd : ∀ D H', H D = none → Same H H' → H' D = some (.lst (((signs z).filter p).map f)) → Q (.ref D) H') : ∃ y, V.str z = .str y ∧ LcW (Its y) (gName j) tt te vs σ H Q :=
  ⟨z, rfl, lc_pure walk_signs (fun _ _ => trivial) p f hw (by unfold signs; rw [List.length_map]; simpa [Str.length] using hl) ht he hd⟩
end
/-- a value's type stays while what is tracked stays -/
theorem tyx_same {K : PySem.W.Frag} {H H' : Hp} {v : V} {t : Value} (e : Same H H') (h : TyX K H v t) : TyX K H' v t := by
  cases h with
  | base b =>
    refine .base ?_
    cases b with
    | non => exact .non
    | bl x => exact .bl x
    | int i => exact .int i
    | str x => exact .str x
    | flt x => exact .flt x
    | lst h => exact .lst (e _ _ h)
    | frz h => exact .frz (e _ _ h)
    | tup h => exact .tup (e _ _ h)
    | dK h => exact .dK (e _ _ h)
    | dT h => exact .dT (e _ _ h)
    | ins h c1 c2 c3 c4 c5 => exact .ins (e _ _ h) c1 c2 c3 c4 c5
  | byt b => exact .byt b
  | set h => exact .set (e _ _ h)
  | kList h c => exact .kList h c
  | kTuple h c => exact .kTuple h c
  | kDict h c => exact .kDict h c
  | fTuple h => exact .fTuple (e _ _ h)
  | fDict h => exact .fDict (e _ _ h)
theorem shows_2 (b : Bool) : Shows (.list [.bool b, .bool b]) := by
  cases b <;> exact ⟨by decide +kernel, by decide +kernel, by decide +kernel, by decide +kernel⟩
/-! ### signs, parts of a text -/
theorem tl_mid (z : Str) (i j : Nat) (h : i ≤ j) : tl (cutS z (some (i : Int)) (some (j : Int))) = ((tl z).drop i).take (j - i) := by
  rw [tl_cut, HT.sIx_nat, HT.sIx_nat]
  have e := len_tl z
  by_cases h1 : i ≤ z.length
  · rw [Nat.min_eq_left h1]
    by_cases h2 : j ≤ z.length
    · rw [Nat.min_eq_left h2]
    · rw [Nat.min_eq_right (by omega), List.take_of_length_le (by rw [List.length_drop, e]; exact Nat.le_refl _), List.take_of_length_le (by rw [List.length_drop, e]; omega)]
  · rw [Nat.min_eq_right (by omega), Nat.min_eq_right (by omega), List.drop_of_length_le (by rw [e]; exact Nat.le_refl _), List.drop_of_length_le (by rw [e]; omega), List.take_nil, List.take_nil]
theorem tl_inj {a b : Str} : a = b ↔ tl a = tl b := ⟨fun h => h ▸ rfl, str_ext⟩
theorem dec_tl (a b : Str) : decide (a = b) = decide (tl a = tl b) := decide_eq_decide.mpr tl_inj
theorem tl_sg (c : Nat) : tl (⟨#[c]⟩ : Str) = [c] := rfl
theorem drop_ne {l : List Nat} {k c : Nat} {r : List Nat} (h : l.drop k = c :: r) : l[k]? = some c ∧ k < l.length ∧ l.drop (k + 1) = r := by
  have h1 : (l.drop k)[0]? = some c := by rw [h]; rfl
  rw [List.getElem?_drop, Nat.add_zero] at h1
  refine ⟨h1, (List.getElem?_eq_some_iff.mp h1).1, ?_⟩
  rw [← List.drop_drop, h]
  rfl
/-- the first c in a row of signs: what stands before it, what behind -/
def cutAt (c : Nat) : List Nat → Option (List Nat × List Nat)
  | [] => none
  | x :: r => if x = c then some ([], r) else (cutAt c r).map fun p => (x :: p.1, p.2)
theorem cutAt_none {c : Nat} : ∀ {l : List Nat}, cutAt c l = none → c ∉ l
  | [], _ => List.not_mem_nil
  | x :: r, h => by
    unfold cutAt at h
    by_cases e : x = c
    · rw [if_pos e] at h; cases h
    · rw [if_neg e, Option.map_eq_none_iff] at h
      rw [List.mem_cons]
      rintro (q | q)
      · exact e q.symm
      · exact cutAt_none h q
theorem cutAt_some {c : Nat} : ∀ {l b t : List Nat}, cutAt c l = some (b, t) → l = b ++ c :: t ∧ c ∉ b
  | [], _, _, h => by cases h
  | x :: r, b, t, h => by
    unfold cutAt at h
    by_cases e : x = c
    · rw [if_pos e] at h
      cases h
      exact ⟨by rw [e]; rfl, List.not_mem_nil⟩
    · rw [if_neg e] at h
      obtain ⟨⟨b', t'⟩, h1, h2⟩ := Option.map_eq_some_iff.mp h
      cases h2
      obtain ⟨h3, h4⟩ := cutAt_some h1
      refine ⟨by rw [h3]; rfl, ?_⟩
      rw [List.mem_cons]
      rintro (q | q)
      · exact e q.symm
      · exact h4 q
theorem from_nat {n i : Nat} : fromIndex n (i : Int) = i := by
  unfold fromIndex
  rw [if_neg (by omega)]
  omega
theorem getD_tl {z : Str} {v c : Nat} (hv : v < z.length) : z.cps.getD v 0 = c ↔ (tl z)[v]? = some c := ⟨StrLaws.getElem?_of_getD hv, StrLaws.getD_of_getElem?⟩
/-- find of one sign, from a place on -/
theorem find_cut (z : Str) (c i : Nat) : Txt.find3 z ⟨#[c]⟩ (i : Int) = (match cutAt c ((tl z).drop i) with | none => -1 | some (b, _) => ((i + b.length : Nat) : Int)) := by
  have sp := StrLaws.find3_spec z c (i : Int)
  rw [from_nat] at sp
  cases e : cutAt c ((tl z).drop i) with
  | none =>
    rcases sp with ⟨h, _⟩ | ⟨k, h, h1, h2, h3, _⟩
    · exact h
    · refine absurd ?_ (cutAt_none e)
      refine List.mem_of_getElem? (i := k - i) ?_
      rw [List.getElem?_drop, show i + (k - i) = k by omega]
      exact (getD_tl h2).mp h3
  | some p =>
    obtain ⟨b, t⟩ := p
    obtain ⟨h5, h6⟩ := cutAt_some e
    have at_ : (tl z)[i + b.length]? = some c := by
      rw [← List.getElem?_drop, h5, List.getElem?_append_right (Nat.le_refl _), Nat.sub_self]
      rfl
    have lt := (List.getElem?_eq_some_iff.mp at_).1
    rw [len_tl] at lt
    rcases sp with ⟨_, h⟩ | ⟨k, h, h1, h2, h3, h4⟩
    · exact absurd ((getD_tl lt).mpr at_) (h _ (by omega) lt)
    · rw [h]
      have h3' := (getD_tl h2).mp h3
      have e1 : ¬ k < i + b.length := fun q => h6 (by
        refine List.mem_of_getElem? (i := k - i) (a := c) ?_
        have : ((tl z).drop i)[k - i]? = some c := by rw [List.getElem?_drop, show i + (k - i) = k by omega]; exact h3'
        rw [h5, List.getElem?_append_left (by omega)] at this
        exact this)
      have e2 : ¬ i + b.length < k := fun q => h4 _ (by omega) q ((getD_tl lt).mpr at_)
      show (k : Int) = ((i + b.length : Nat) : Int)
      omega
theorem find_cut0 (z : Str) (c : Nat) : Txt.find z ⟨#[c]⟩ = (match cutAt c (tl z) with | none => -1 | some (b, _) => (b.length : Int)) := by
  rw [find_is_find3, show (0 : Int) = ((0 : Nat) : Int) from rfl, find_cut, List.drop_zero]
  cases cutAt c (tl z) with
  | none => rfl
  | some p => show ((0 + p.1.length : Nat) : Int) = _; rw [Nat.zero_add]
/-! ### what is new since A -/
def nw (A H : Hp) : Hp := fun a => match A a with | none => H a | some _ => none
/-- all that A tracks is tracked still -/
def Sub (A H : Hp) : Prop := ∀ a, H a = none → A a = none
theorem Sub.refl (A : Hp) : Sub A A := fun _ h => h
theorem Sub.of {A H : Hp} (e : Same A H) : Sub A H := fun a h => by
  cases q : A a with
  | none => rfl
  | some o => rw [e _ _ q] at h; cases h
theorem Sub.trans {A B C : Hp} (h : Sub A B) (k : Sub B C) : Sub A C := fun a q => h a (k a q)
theorem Sub.upd {A H : Hp} {p : Addr} {o : HO} (h : Sub A H) : Sub A (upd H p o) := fun a q => by
  by_cases e : a = p
  · rw [e, upd_same] at q; cases q
  · rw [upd_ne e] at q; exact h a q
theorem nw_get {A H : Hp} {a : Addr} {o : HO} (h : A a = none) (k : H a = some o) : nw A H a = some o := by
  unfold nw
  rw [h]
  exact k
theorem nw_inv {A H : Hp} {a : Addr} {o : HO} (k : nw A H a = some o) : A a = none ∧ H a = some o := by
  unfold nw at k
  cases q : A a with
  | none => rw [q] at k; exact ⟨rfl, k⟩
  | some u => rw [q] at k; cases k
theorem nw_same {A H : Hp} : Same (nw A H) H := fun _ _ k => (nw_inv k).2
theorem nw_mono {A H H' : Hp} (e : Same H H') : Same (nw A H) (nw A H') := fun a o k => nw_get (nw_inv k).1 (e _ _ (nw_inv k).2)
theorem nw_base {A B H : Hp} (e : Sub A B) : Same (nw B H) (nw A H) := fun a o k => nw_get (e a (nw_inv k).1) (nw_inv k).2
theorem nw_put {A H : Hp} {p : Addr} {u o : HO} (h : A p = some u) : Same (nw A H) (nw A (upd H p o)) := fun a v k => by
  obtain ⟨k1, k2⟩ := nw_inv k
  have e : a ≠ p := fun e => by rw [e, h] at k1; cases k1
  exact nw_get k1 (by rw [upd_ne e]; exact k2)
theorem nw_ne {A H : Hp} {a p : Addr} {u o : HO} (h : A p = some u) (k : nw A H a = some o) : a ≠ p := fun e => by
  have := (nw_inv k).1
  rw [e, h] at this
  cases this
theorem tl_nil : tl ("" : Str) = [] := by decide +kernel
theorem isSome_map {α β : Type} {f : α → β} {o : Option α} : (o.map f).isSome = o.isSome := by cases o <;> rfl
/-- a text of signs: its first one, the rest -/
theorem tl_cases (z : Str) : tl z = [] ∨ ∃ c r, tl z = c :: r := by
  cases e : tl z with
  | nil => exact .inl rfl
  | cons c r => exact .inr ⟨c, r, rfl⟩
theorem tl_from (z : Str) (k : Nat) : tl (cutS z (some (k : Int)) none) = (tl z).drop k := tl_drop z k
/-! ### rising rows, keys of dicts -/
theorem incr_ext : ∀ {l m : List Int}, l.Pairwise (· < ·) → m.Pairwise (· < ·) → (∀ x, x ∈ l ↔ x ∈ m) → l = m
  | [], [], _, _, _ => rfl
  | [], b :: m, _, _, h => absurd ((h b).mpr List.mem_cons_self) List.not_mem_nil
  | a :: l, [], _, _, h => absurd ((h a).mp List.mem_cons_self) List.not_mem_nil
  | a :: l, b :: m, hl, hm, h => by
    obtain ⟨l1, l2⟩ := List.pairwise_cons.mp hl
    obtain ⟨m1, m2⟩ := List.pairwise_cons.mp hm
    have e : a = b := by
      rcases List.mem_cons.mp ((h a).mp List.mem_cons_self) with e | e
      · exact e
      · rcases List.mem_cons.mp ((h b).mpr List.mem_cons_self) with e' | e'
        · exact e'.symm
        · have := l1 _ e'
          have := m1 _ e
          omega
    subst e
    rw [incr_ext l2 m2 fun x => ⟨fun q => ?_, fun q => ?_⟩]
    · rcases List.mem_cons.mp ((h x).mp (List.mem_cons_of_mem _ q)) with e | e
      · have := l1 _ q; omega
      · exact e
    · rcases List.mem_cons.mp ((h x).mpr (List.mem_cons_of_mem _ q)) with e | e
      · have := m1 _ q; omega
      · exact e
theorem strict_of {l : List Int} (h : l.Pairwise (· ≤ ·)) (n : l.Nodup) : l.Pairwise (· < ·) := by
  refine (List.Pairwise.and h n).imp ?_
  rintro a b ⟨h1, h2⟩
  have : a ≠ b := h2
  omega
/-- a set's members, in the sequence in which they came -/
def putI (ks : List Int) (k : Int) : List Int := if k ∈ ks then ks else ks ++ [k]
theorem keys_put {kvs : List (Key × V)} {ks : List Int} {k : Int} {v : V} (h : kvs.map (·.1) = ks.map Sum.inl) : (putK kvs (Sum.inl k) v).map (·.1) = (putI ks k).map Sum.inl := by
  have any : (kvs.any fun kv => decide (kv.1 = Sum.inl k)) = decide (k ∈ ks) := by
    have e : (kvs.any fun kv => decide (kv.1 = Sum.inl k)) = (kvs.map (·.1)).any fun x => decide (x = Sum.inl k) := by rw [List.any_map]; rfl
    rw [e, h, List.any_map]
    rw [Bool.eq_iff_iff, List.any_eq_true, decide_eq_true_eq]
    constructor
    · rintro ⟨x, h1, h2⟩
      have h2 := of_decide_eq_true h2
      cases h2
      exact h1
    · exact fun h1 => ⟨k, h1, decide_eq_true rfl⟩
  unfold putK putI
  rw [any]
  by_cases c : k ∈ ks
  · rw [decide_eq_true c, if_pos rfl, if_pos c, ← h, List.map_map]
    refine List.map_congr_left fun kv _ => ?_
    show (if kv.1 = Sum.inl k then (kv.1, v) else kv).1 = kv.1
    split <;> rfl
  · rw [decide_eq_false c, if_neg (by decide), if_neg c, List.map_append, List.map_append, h]
    rfl
theorem putI_mem {ks : List Int} {k x : Int} : x ∈ putI ks k ↔ x ∈ ks ∨ x = k := by
  unfold putI
  split
  · rename_i h
    exact ⟨.inl, fun q => q.elim id fun e => e ▸ h⟩
  · rw [List.mem_append, List.mem_singleton]
theorem putI_nodup {ks : List Int} {k : Int} (h : ks.Nodup) : (putI ks k).Nodup := by
  unfold putI
  split
  · exact h
  · rename_i c
    refine List.nodup_append.mpr ⟨h, List.pairwise_singleton _ _, ?_⟩
    intro a ha b hb e
    rw [List.mem_singleton] at hb
    exact c (hb ▸ e ▸ ha)
theorem keys_len {kvs : List (Key × V)} {ks : List Int} (h : kvs.map (·.1) = ks.map Sum.inl) : kvs.length = ks.length := by
  have := congrArg List.length h
  rwa [List.length_map, List.length_map] at this
/-- members below n, none twice: n at most -/
theorem few_ints : ∀ (n : Nat) {ks : List Int}, ks.Nodup → (∀ k ∈ ks, 0 ≤ k ∧ k < (n : Int)) → ks.length ≤ n
  | 0, [], _, _ => Nat.le_refl _
  | 0, k :: ks, _, h => by have := h k List.mem_cons_self; omega
  | n + 1, ks, hn, h => by
    have h1 : (ks.erase (n : Int)).length ≤ n := by
      refine few_ints n (hn.erase _) fun k hk => ?_
      have h2 := h k (List.mem_of_mem_erase hk)
      have h3 : k ≠ (n : Int) := by
        intro e
        rw [e] at hk
        exact (List.Nodup.mem_erase_iff hn).mp hk |>.1 rfl
      omega
    rw [List.length_erase] at h1
    split at h1 <;> omega
def sg (c : Nat) : Str := ⟨#[c]⟩
def mk (l : List Nat) : Str := ⟨l.toArray⟩
theorem tl_mk (l : List Nat) : tl (mk l) = l := by
  show (l.toArray).toList = l
  simp
theorem len_mk (l : List Nat) : (mk l).length = l.length := by rw [← len_tl, tl_mk]
theorem rd_strD {H : Hp} {Q : VK} {n : Nat} (h : n < 10) (q : Q (.str (sg (48 + n))) H) : xStrI [.int (n : Int)] H Q := by
  have e : ∀ n, n < 10 → ((toString ((n : Nat) : Int) : String) : Str) = sg (48 + n) := by decide +kernel
  refine ⟨_, rfl, ?_, ?_⟩
  · have : ∀ n, n < 10 → (((n : Nat) : Int).natAbs.log2 < 1920) := by decide +kernel
    exact this n h
  · rw [e n h]; exact q
theorem cutV_take (xs : List V) (k : Nat) : cutV xs none (some (k : Int)) = xs.take k := by
  unfold cutV
  rw [HT.sIx_none, List.drop_zero, Nat.sub_zero, HT.sIx_nat]
  by_cases h : k ≤ xs.length
  · rw [Nat.min_eq_left h]
  · rw [Nat.min_eq_right (by omega), List.take_of_length_le (Nat.le_refl _), List.take_of_length_le (by omega)]
theorem cutV_drop (xs : List V) (k : Nat) : cutV xs (some (k : Int)) none = xs.drop k := by
  unfold cutV
  rw [HT.sIx_none, HT.sIx_nat]
  by_cases h : k ≤ xs.length
  · rw [Nat.min_eq_left h, List.take_of_length_le (by rw [List.length_drop]; exact Nat.le_refl _)]
  · rw [Nat.min_eq_right (by omega), List.drop_of_length_le (Nat.le_refl _), List.drop_of_length_le (by omega), List.take_nil]
theorem cutV_mid (xs : List V) (i j : Nat) (h : i ≤ j) : cutV xs (some (i : Int)) (some (j : Int)) = (xs.drop i).take (j - i) := by
  unfold cutV
  rw [HT.sIx_nat, HT.sIx_nat]
  by_cases h1 : i ≤ xs.length
  · rw [Nat.min_eq_left h1]
    by_cases h2 : j ≤ xs.length
    · rw [Nat.min_eq_left h2]
    · rw [Nat.min_eq_right (by omega), List.take_of_length_le (by rw [List.length_drop]; exact Nat.le_refl _), List.take_of_length_le (by rw [List.length_drop]; omega)]
  · rw [Nat.min_eq_right (by omega), Nat.min_eq_right (by omega), List.drop_of_length_le (Nat.le_refl _), List.drop_of_length_le (by omega), List.take_nil, List.take_nil]
end Mine

/-! ## Data that never changes: tuples of tuples, ints, texts -/
namespace Mine
open PySem PySem.Spec PyProof.Rows L2
open TL (tl)
set_option linter.all false
/-- tuples stay -/
def Tp (H H' : Hp) : Prop := ∀ a xs, H a = some (.tup xs) → H' a = some (.tup xs)
theorem Tp.refl (H : Hp) : Tp H H := fun _ _ h => h
theorem Tp.trans {A B C : Hp} (h : Tp A B) (k : Tp B C) : Tp A C := fun a xs q => k a xs (h a xs q)
theorem Tp.of {A B : Hp} (h : Same A B) : Tp A B := fun a xs q => h a _ q
theorem Tp.new {A B : Hp} {p : Addr} {o : HO} (h : Tp A B) (n : B p = none) : Tp A (upd B p o) := fun a xs q => by
  have := h a xs q
  rw [upd_ne (ne_of_none this n)]
  exact this
theorem Tp.lst {A B : Hp} {p : Addr} {o : HO} {ys : List V} (h : Tp A B) (n : B p = some (.lst ys)) : Tp A (upd B p o) := fun a xs q => by
  have := h a xs q
  rw [upd_ne (fun e => by rw [e, n] at this; cases this)]
  exact this
theorem Tp.dct {A B : Hp} {p : Addr} {o : HO} {ys : List (Key × V)} (h : Tp A B) (n : B p = some (.dK ys)) : Tp A (upd B p o) := fun a xs q => by
  have := h a xs q
  rw [upd_ne (fun e => by rw [e, n] at this; cases this)]
  exact this
theorem Tp.put {A B : Hp} {p : Addr} {o : HO} (h : Tp A B) (n : A p = none) : Tp A (upd B p o) := fun a xs q => by
  rw [upd_ne (ne_of_none q n)]
  exact h a xs q
mutual
/-- data, held by a value -/
inductive Im (H : Hp) : V → PyData → Prop
  | non : Im H .non .none
  | bl (b : Bool) : Im H (.bl b) (.bool b)
  | int (i : Int) : Im H (.int i) (.int i)
  | str (x : Str) : Im H (.str x) (.str x)
  | tup {a : Addr} {xs : List V} {ds : List PyData} : H a = some (.tup xs) → ImAll H xs ds → Im H (.ref a) (.tuple ds)
inductive ImAll (H : Hp) : List V → List PyData → Prop
  | nil : ImAll H [] []
  | cons {v : V} {vs : List V} {d : PyData} {ds : List PyData} : Im H v d → ImAll H vs ds → ImAll H (v :: vs) (d :: ds)
end
section
variable {H H' : Hp} {K : PySem.W.Frag}
mutual
theorem Im.mono (e : Tp H H') : ∀ (d : PyData) (v : V), Im H v d → Im H' v d
  | .none, _, h => by cases h; exact .non
  | .bool b, _, h => by cases h; exact .bl b
  | .int i, _, h => by cases h; exact .int i
  | .str x, _, h => by cases h; exact .str x
  | .tuple ds, _, h => by
    cases h with
    | tup h1 h2 => exact .tup (e _ _ h1) (ImAll.mono e ds _ h2)
  | .list ds, _, h => by cases h
  | .dict ds, _, h => by cases h
theorem ImAll.mono (e : Tp H H') : ∀ (ds : List PyData) (vs : List V), ImAll H vs ds → ImAll H' vs ds
  | [], _, h => by cases h; exact .nil
  | d :: ds, _, h => by
    cases h with
    | cons h1 h2 => exact .cons (Im.mono e d _ h1) (ImAll.mono e ds _ h2)
end
mutual
theorem Im.dp : ∀ (d : PyData) (v : V), Im H v d → Dp K H v d
  | .none, _, h => by cases h; exact .non
  | .bool b, _, h => by cases h; exact .bl b
  | .int i, _, h => by cases h; exact .int i
  | .str x, _, h => by cases h; exact .str x
  | .tuple ds, _, h => by
    cases h with
    | tup h1 h2 => exact .tup (SqT.of h1) (ImAll.dp ds _ h2)
  | .list ds, _, h => by cases h
  | .dict ds, _, h => by cases h
theorem ImAll.dp : ∀ (ds : List PyData) (vs : List V), ImAll H vs ds → DpAll K H vs ds
  | [], _, h => by cases h; exact .nil
  | d :: ds, _, h => by
    cases h with
    | cons h1 h2 => exact .cons (Im.dp d _ h1) (ImAll.dp ds _ h2)
end
theorem Im.up {v : V} {d : PyData} (h : Im H v d) (e : Tp H H') : Im H' v d := Im.mono e d v h
theorem ImAll.up {vs : List V} {ds : List PyData} (h : ImAll H vs ds) (e : Tp H H') : ImAll H' vs ds := ImAll.mono e ds vs h
theorem Im.to {v : V} {d : PyData} (h : Im H v d) : Dp K H v d := Im.dp d v h
theorem ImAll.to {vs : List V} {ds : List PyData} (h : ImAll H vs ds) : DpAll K H vs ds := ImAll.dp ds vs h
theorem ImAll.length : ∀ {vs : List V} {ds : List PyData}, ImAll H vs ds → vs.length = ds.length
  | _, [], h => by cases h; rfl
  | _, d :: ds, h => by
    cases h with
    | cons _ h2 => rw [List.length_cons, List.length_cons, ImAll.length h2]
theorem ImAll.get : ∀ {vs : List V} {ds : List PyData} {i : Nat} {d : PyData}, ImAll H vs ds → ds[i]? = some d → ∃ v, vs[i]? = some v ∧ Im H v d
  | _, [], i, _, h, e => by simp at e
  | _, d :: ds, 0, _, h, e => by
    cases h with
    | cons h1 h2 => cases e; exact ⟨_, rfl, h1⟩
  | _, d :: ds, i + 1, _, h, e => by
    cases h with
    | cons h1 h2 => exact ImAll.get (i := i) h2 e
theorem ImAll.getV : ∀ {vs : List V} {ds : List PyData} {i : Nat} {v : V}, ImAll H vs ds → vs[i]? = some v → ∃ d, ds[i]? = some d ∧ Im H v d := fun {vs ds i v} h e => by
  have l := (List.getElem?_eq_some_iff.mp e).1
  rw [h.length] at l
  obtain ⟨w, h1, h2⟩ := h.get (List.getElem?_eq_getElem l)
  rw [e] at h1
  cases h1
  exact ⟨_, List.getElem?_eq_getElem l, h2⟩
theorem ImAll.append : ∀ {vs ws : List V} {ds es : List PyData}, ImAll H vs ds → ImAll H ws es → ImAll H (vs ++ ws) (ds ++ es)
  | _, _, [], _, h, k => by cases h; exact k
  | _, _, d :: ds, _, h, k => by
    cases h with
    | cons h1 h2 => exact .cons h1 (ImAll.append h2 k)
theorem ImAll.snoc {vs : List V} {v : V} {ds : List PyData} {d : PyData} (h : ImAll H vs ds) (k : Im H v d) : ImAll H (vs ++ [v]) (ds ++ [d]) := h.append (.cons k .nil)
theorem ImAll.set : ∀ {vs : List V} {ds : List PyData} {v : V} {d : PyData} (i : Nat), ImAll H vs ds → Im H v d → ImAll H (vs.set i v) (ds.set i d)
  | _, [], _, _, i, h, _ => by cases h; exact .nil
  | _, d :: ds, _, _, 0, h, k => by
    cases h with
    | cons h1 h2 => exact .cons k h2
  | _, d :: ds, _, _, i + 1, h, k => by
    cases h with
    | cons h1 h2 => exact .cons h1 (ImAll.set i h2 k)
theorem ImAll.take : ∀ {vs : List V} {ds : List PyData} (i : Nat), ImAll H vs ds → ImAll H (vs.take i) (ds.take i)
  | _, [], i, h => by cases h; rw [List.take_nil, List.take_nil]; exact .nil
  | _, d :: ds, 0, h => .nil
  | _, d :: ds, i + 1, h => by
    cases h with
    | cons h1 h2 => exact .cons h1 (ImAll.take i h2)
theorem ImAll.drop : ∀ {vs : List V} {ds : List PyData} (i : Nat), ImAll H vs ds → ImAll H (vs.drop i) (ds.drop i)
  | _, [], i, h => by cases h; rw [List.drop_nil, List.drop_nil]; exact .nil
  | _, d :: ds, 0, h => h
  | _, d :: ds, i + 1, h => by
    cases h with
    | cons h1 h2 => exact ImAll.drop i h2
theorem im_strs : ∀ ws : List Str, ImAll H (ws.map V.str) (ws.map PyData.str)
  | [] => .nil
  | w :: ws => .cons (.str w) (im_strs ws)
theorem im_ints : ∀ ws : List Int, ImAll H (ws.map V.int) (ws.map PyData.int)
  | [] => .nil
  | w :: ws => .cons (.int w) (im_ints ws)
/-- a tuple of one, two, three, four -/
theorem Im.t1 {v : V} {d : PyData} (h : Im H v (.tuple [d])) : ∃ a x, v = .ref a ∧ H a = some (.tup [x]) ∧ Im H x d := by
  cases h with
  | tup h1 h2 =>
    cases h2 with
    | cons k1 r1 => cases r1; exact ⟨_, _, rfl, h1, k1⟩
theorem Im.t2 {v : V} {d e : PyData} (h : Im H v (.tuple [d, e])) : ∃ a x y, v = .ref a ∧ H a = some (.tup [x, y]) ∧ Im H x d ∧ Im H y e := by
  cases h with
  | tup h1 h2 =>
    cases h2 with
    | cons k1 r1 =>
      cases r1 with
      | cons k2 r2 => cases r2; exact ⟨_, _, _, rfl, h1, k1, k2⟩
theorem Im.t3 {v : V} {d e f : PyData} (h : Im H v (.tuple [d, e, f])) : ∃ a x y z, v = .ref a ∧ H a = some (.tup [x, y, z]) ∧ Im H x d ∧ Im H y e ∧ Im H z f := by
  cases h with
  | tup h1 h2 =>
    cases h2 with
    | cons k1 r1 =>
      cases r1 with
      | cons k2 r2 =>
        cases r2 with
        | cons k3 r3 => cases r3; exact ⟨_, _, _, _, rfl, h1, k1, k2, k3⟩
theorem Im.t4 {v : V} {d e f g : PyData} (h : Im H v (.tuple [d, e, f, g])) : ∃ a x y z u, v = .ref a ∧ H a = some (.tup [x, y, z, u]) ∧ Im H x d ∧ Im H y e ∧ Im H z f ∧ Im H u g := by
  cases h with
  | tup h1 h2 =>
    cases h2 with
    | cons k1 r1 =>
      cases r1 with
      | cons k2 r2 =>
        cases r2 with
        | cons k3 r3 =>
          cases r3 with
          | cons k4 r4 => cases r4; exact ⟨_, _, _, _, _, rfl, h1, k1, k2, k3, k4⟩
theorem Im.tn {v : V} {ds : List PyData} (h : Im H v (.tuple ds)) : ∃ a xs, v = .ref a ∧ H a = some (.tup xs) ∧ ImAll H xs ds := by
  cases h with
  | tup h1 h2 => exact ⟨_, _, rfl, h1, h2⟩
theorem Im.i {v : V} {i : Int} (h : Im H v (.int i)) : v = .int i := by cases h; rfl
theorem Im.s {v : V} {x : Str} (h : Im H v (.str x)) : v = .str x := by cases h; rfl
theorem Im.n {v : V} (h : Im H v .none) : v = .non := by cases h; rfl
theorem Im.b {v : V} {b : Bool} (h : Im H v (.bool b)) : v = .bl b := by cases h; rfl
theorem Im.mk1 {a : Addr} {x : V} {d : PyData} (h : H a = some (.tup [x])) (h1 : Im H x d) : Im H (.ref a) (.tuple [d]) := .tup h (.cons h1 .nil)
theorem Im.mk2 {a : Addr} {x y : V} {d e : PyData} (h : H a = some (.tup [x, y])) (h1 : Im H x d) (h2 : Im H y e) : Im H (.ref a) (.tuple [d, e]) := .tup h (.cons h1 (.cons h2 .nil))
theorem Im.mk3 {a : Addr} {x y z : V} {d e f : PyData} (h : H a = some (.tup [x, y, z])) (h1 : Im H x d) (h2 : Im H y e) (h3 : Im H z f) : Im H (.ref a) (.tuple [d, e, f]) := .tup h (.cons h1 (.cons h2 (.cons h3 .nil)))
theorem Im.mk4 {a : Addr} {x y z u : V} {d e f g : PyData} (h : H a = some (.tup [x, y, z, u])) (h1 : Im H x d) (h2 : Im H y e) (h3 : Im H z f) (h4 : Im H u g) : Im H (.ref a) (.tuple [d, e, f, g]) := .tup h (.cons h1 (.cons h2 (.cons h3 (.cons h4 .nil))))
end
/-! ### what may be shown, by bounds -/
mutual
def good : PyData → Bool
  | .none | .bool _ => true
  | .int i => decide (i.natAbs < 10 ^ 6)
  | .str x => x.cps.all (· < 0x110000)
  | .list xs | .tuple xs => goodAll xs
  | .dict _ => false
def goodAll : List PyData → Bool
  | [] => true
  | x :: xs => good x && goodAll xs
end
mutual
theorem good_ok : ∀ d : PyData, good d = true → d.canLay0 = true ∧ d.intsShort 13 = true ∧ d.showable = true ∧ d.hasDict = false
  | .none, _ => ⟨rfl, rfl, rfl, rfl⟩
  | .bool _, _ => ⟨rfl, rfl, rfl, rfl⟩
  | .int i, h => by
    have h1 : i.natAbs < 10 ^ 6 := of_decide_eq_true h
    refine ⟨rfl, ?_, ?_, rfl⟩
    · exact decide_eq_true (PyData.shown_int_le (Nat.lt_trans h1 (by decide)))
    · refine decide_eq_true (Nat.lt_of_le_of_lt ?_ (show 20 < 1920 by decide))
      have h2 : i.natAbs < 2 ^ 20 := Nat.lt_trans h1 (by decide)
      have := PySem.Flt.log2_lt_of (by decide) h2
      omega
  | .str x, h => ⟨h, rfl, rfl, rfl⟩
  | .list xs, h => goodAll_ok xs h
  | .tuple xs, h => goodAll_ok xs h
theorem goodAll_ok : ∀ xs : List PyData, goodAll xs = true → PyData.canLayAll0 xs = true ∧ PyData.intsShortAll 13 xs = true ∧ PyData.showableAll xs = true ∧ PyData.hasDictAll xs = false
  | [], _ => ⟨rfl, rfl, rfl, rfl⟩
  | x :: xs, h => by
    have h' : (good x && goodAll xs) = true := h
    rw [Bool.and_eq_true] at h'
    obtain ⟨a1, a2, a3, a4⟩ := good_ok x h'.1
    obtain ⟨b1, b2, b3, b4⟩ := goodAll_ok xs h'.2
    refine ⟨?_, ?_, ?_, ?_⟩
    · show (PyData.canLay0 x && PyData.canLayAll0 xs) = true
      rw [a1, b1]; rfl
    · show (PyData.intsShort 13 x && PyData.intsShortAll 13 xs) = true
      rw [a2, b2]; rfl
    · show (PyData.showable x && PyData.showableAll xs) = true
      rw [a3, b3]; rfl
    · show (PyData.hasDict x || PyData.hasDictAll xs) = false
      rw [a4, b4]; rfl
end
/-- bounds of data: its depth, its weight -/
structure Bd (k w : Nat) (d : PyData) : Prop where
  g : good d = true
  dp : d.depth ≤ k
  w : d.weight ≤ w
theorem Bd.mono {k w k' w' : Nat} {d : PyData} (h : Bd k w d) (h1 : k ≤ k') (h2 : w ≤ w') : Bd k' w' d := ⟨h.g, Nat.le_trans h.dp h1, Nat.le_trans h.w h2⟩
theorem bd_all {k w : Nat} : ∀ {ds : List PyData}, (∀ d ∈ ds, Bd k w d) → goodAll ds = true ∧ PyData.depthAll ds ≤ k ∧ PyData.weightAll ds ≤ ds.length * (w + 1)
  | [], _ => ⟨rfl, Nat.zero_le _, Nat.zero_le _⟩
  | d :: ds, h => by
    obtain ⟨h1, h2, h3⟩ := bd_all fun e he => h e (List.mem_cons_of_mem _ he)
    obtain ⟨a1, a2, a3⟩ := h d List.mem_cons_self
    refine ⟨?_, ?_, ?_⟩
    · show (good d && goodAll ds) = true
      rw [a1, h1]; rfl
    · show max _ _ ≤ k
      omega
    · show PyData.weight d + 1 + PyData.weightAll ds ≤ _
      rw [List.length_cons, Nat.add_mul, Nat.one_mul]
      omega
theorem Bd.tup {k w : Nat} {ds : List PyData} (h : ∀ d ∈ ds, Bd k w d) : Bd (k + 1) (ds.length * (w + 1)) (.tuple ds) := by
  obtain ⟨h1, h2, h3⟩ := bd_all h
  exact ⟨h1, Nat.succ_le_succ h2, h3⟩
theorem Bd.lst {k w : Nat} {ds : List PyData} (h : ∀ d ∈ ds, Bd k w d) : Bd (k + 1) (ds.length * (w + 1)) (.list ds) := by
  obtain ⟨h1, h2, h3⟩ := bd_all h
  exact ⟨h1, Nat.succ_le_succ h2, h3⟩
theorem Bd.int {i : Int} (h : i.natAbs < 10 ^ 6) : Bd 0 20 (.int i) := by
  refine ⟨decide_eq_true h, Nat.le_refl _, ?_⟩
  show (if i == 0 then 0 else i.natAbs.log2 + 1) ≤ 20
  split
  · omega
  · have h2 : i.natAbs < 2 ^ 20 := Nat.lt_trans h (by decide)
    have := PySem.Flt.log2_lt_of (by decide) h2
    omega
theorem Bd.str {x : Str} (h : ∀ c ∈ tl x, c < 0x110000) : Bd 0 x.length (.str x) := by
  refine ⟨?_, Nat.le_refl _, Nat.le_refl _⟩
  show x.cps.all (· < 0x110000) = true
  rw [Array.all_eq_true']
  intro c hc
  exact decide_eq_true (h c (Array.mem_toList_iff.mpr hc))
theorem Bd.non : Bd 0 0 .none := ⟨rfl, Nat.le_refl _, Nat.le_refl _⟩
theorem Bd.bl {b : Bool} : Bd 0 0 (.bool b) := ⟨rfl, Nat.le_refl _, Nat.le_refl _⟩
theorem Bd.shows {k w : Nat} {d : PyData} (h : Bd k w d) (h1 : k ≤ 60) (h2 : w ≤ 2 ^ 20) : Shows d := by
  obtain ⟨g1, g2, g3, g4⟩ := good_ok d h.g
  refine ⟨g3, g4, Nat.le_trans h.dp h1, ?_⟩
  refine PyData.shown_fits_of_layable0 (B := 13) (by decide) (by decide) ?_ g2
  show (PyData.canLay0 d && decide (PyData.depth d ≤ 64) && decide (PyData.weight d ≤ 2 ^ 20)) = true
  rw [g1, decide_eq_true (show PyData.depth d ≤ 64 from Nat.le_trans h.dp (by omega)), decide_eq_true (show PyData.weight d ≤ 2 ^ 20 from Nat.le_trans h.w h2)]
  rfl
theorem Bd.shaped {k w : Nat} {d : PyData} (h : Bd k w d) (h1 : k ≤ 60) : SeqAt.shaped d = true := by
  obtain ⟨g1, _, _, _⟩ := good_ok d h.g
  show (PyData.canLay0 d && decide (PyData.depth d ≤ 64)) = true
  rw [g1, decide_eq_true (show PyData.depth d ≤ 64 from Nat.le_trans h.dp (by omega))]
  rfl
end Mine

local macro_rules | `(tactic| walk_at "len") => `(tactic| first | assumption | (refine Mine.szOk ?_; first | decide +kernel | ((try simp only [Mine.len_app]); omega)))
local macro_rules | `(tactic| walk_at "sd") => `(tactic| first | assumption | rfl | exact L2.SqL.of (by assumption) | exact L2.SqT.of (by assumption) | exact L2.SqL.of L2.upd_same | exact L2.SqT.of L2.upd_same | exact L2.upd_same | decide | omega)
local macro_rules | `(tactic| walk_at "rd1") => `(tactic| with_reducible first
  | refine Mine.rd_var (by with_unfolding_all rfl) ?_ | refine Mine.rd_c ?_ | refine Mine.rd_op ?_ | refine Mine.rd_seq ?_ | refine Mine.rd_asg ?_ | refine Mine.rd_gname (by (simp only [L2.wipe, List.map, List.set]); first | done | exact rfl) ?_ | refine Mine.rd_wipe (by with_unfolding_all rfl) ?_ | refine Mine.rd_lcT1 ?_
  | refine Mine.rd_test ?_ | refine Mine.rd_tB ?_ | refine Mine.rd_bl ?_ | refine Mine.rd_ifS ?_ | refine Mine.rd_ifE ?_ | refine Mine.rd_and ?_ | refine Mine.rd_or ?_ | refine Mine.rd_not ?_
  | refine Mine.rd_andV ?_ | refine Mine.rd_orV ?_ | refine Mine.rd_notV ?_ | refine Mine.rd_cons ?_ | refine Mine.rd_nil ?_ | refine Mine.rd_call ?_ | refine Mine.rd_callK ?_
  | refine Mine.rd_sp1 ?_ | refine Mine.rd_sp2 ?_ | refine Mine.rd_sp3 ?_ | refine Mine.rd_sp4 ?_ | refine Mine.rd_cb ?_ | refine Mine.rd_bm ?_ | refine Mine.rd_bm0 ?_ | refine Mine.rd_m1 ?_ | refine Mine.rd_m0 ?_
  | refine Mine.rd_sl ?_ | refine Mine.rd_noPart ?_ | refine Mine.rd_part ?_ | refine Mine.rd_int ?_ | refine Mine.rd_chain ?_ | refine Mine.rd_un ?_ | refine Mine.rd_yes ?_ | refine Mine.rd_dput ?_ | refine Mine.rd_dnew ?_ | refine Mine.rd_forE ?_ | refine Mine.rd_forZ ?_ | refine Mine.rd_lcE ?_ | refine Mine.rd_lcZ ?_ | refine Mine.rd_forR ?_ | refine Mine.rd_forR2 ?_ | refine Mine.rd_lcR ?_ | refine Mine.rd_lcR2 ?_
  | refine Mine.rd_new (by with_unfolding_all rfl) ?_ | refine Mine.rd_lst ?_ | refine Mine.rd_tup ?_ | refine Mine.rd_next ?_ | refine Mine.rd_brk ?_ | refine Mine.rd_cont ?_ | refine Mine.rd_drop ?_ | refine Mine.rd_ret ?_ | refine Mine.rd_retN ?_
  | refine Mine.rd_par ?_ | refine Mine.rd_par2 (by (simp only [List.set]); first | done | exact rfl) ?_ | refine Mine.rd_gsub ?_ | refine Mine.rd_gcons ?_ | refine Mine.rd_gnil ?_ | refine Mine.rd_aug (by with_unfolding_all rfl) ?_ | refine Mine.rd_ipI ?_
  | refine Mine.rd_addI ?_ | refine Mine.rd_subI ?_ | refine Mine.rd_ltI ?_ | refine Mine.rd_leI ?_ | refine Mine.rd_gtI ?_ | refine Mine.rd_geI ?_ | refine Mine.rd_eqI ?_ | refine Mine.rd_eqS ?_ | refine Mine.rd_neI ?_ | refine Mine.rd_neS ?_
  | refine Mine.rd_ltS ?_ | refine Mine.rd_leS ?_ | refine Mine.rd_gtS ?_ | refine Mine.rd_geS ?_ | refine Mine.rd_eqB ?_
  | refine Mine.rd_ixL (L2.SqL.of (by first | assumption | exact L2.upd_same)) (by with_unfolding_all rfl) ?_ | refine Mine.rd_setL (by first | assumption | exact L2.upd_same) (by with_unfolding_all rfl) ?_
  | refine Mine.rd_yT ?_ | refine Mine.rd_nF ?_ | refine Mine.rd_nT ?_ | refine Mine.rd_yF ?_ | refine Mine.rd_isiS ?_ | refine Mine.rd_isiSN ?_ | refine Mine.rd_isiSI ?_ | refine Mine.rd_isiSB ?_ | refine Mine.rd_isiI ?_ | refine Mine.rd_isiIB ?_ | refine Mine.rd_isiIN ?_ | refine Mine.rd_isiIS ?_ | refine Mine.rd_isiB ?_ | refine Mine.rd_isiBI ?_
  | refine Mine.rd_mulS (by first | decide +kernel | omega) (by first | decide | omega) (by first | decide | omega) ?_ | refine Mine.rd_slS (by walk_at "len") ?_ | refine Mine.rd_addS (by walk_at "len") ?_ | refine Mine.rd_lenS (by walk_at "len") ?_
  | refine Mine.rd_inS ?_ | refine Mine.rd_notInS ?_ | refine Mine.rd_is ?_ | refine Mine.rd_isNot ?_ | refine Mine.rd_intI ?_ | refine Mine.rd_intB ?_ | refine Mine.rd_max ?_ | refine Mine.rd_min ?_ | refine Mine.rd_tyS ?_ | refine Mine.rd_isS ?_)
local macro_rules | `(tactic| walk_at "rd") => `(tactic| repeat walk_at "rd1")

namespace Mine
open PySem PySem.Spec PyProof.Rows L2
open TL (tl)
def top (i : Nat) : Stmt := PySem.Challenge.pw_wireshell_k02_normal_forms.main.body.getD i (.Pass ⟨0, 0, 0, 0⟩)
abbrev s_InvalidRedirection___init__ : Stmt := inClass (top 2) 0
abbrev s_is_name : Stmt := top 7
abbrev s_parts_of : Stmt := top 11
abbrev s_is_word : Stmt := top 12
abbrev s_check_words : Stmt := top 13
abbrev s_row_behind : Stmt := top 14
abbrev s_needs_of : Stmt := top 15
abbrev s_form_of : Stmt := top 16
abbrev s_normal_form : Stmt := top 17
abbrev s_law_source : Stmt := top 19
abbrev s_law_draw : Stmt := top 20
abbrev s_law_word_here : Stmt := top 21
abbrev s_law_some_words : Stmt := top 22
abbrev s_law_played : Stmt := top 23
abbrev s_law_form : Stmt := top 24
abbrev s_law_right : Stmt := top 25
abbrev s_law_holds : Stmt := top 26
abbrev s_law : Stmt := top 27
theorem sc_is_name : FnScope ["value", "sign"] ["value"] (defScope s_is_name) := ⟨rfl, rfl, rfl, by decide +kernel, rfl, by decide +kernel, by decide +kernel⟩
theorem sc_parts_of : FnScope ["word", "number", "rest"] ["word"] (defScope s_parts_of) := ⟨rfl, rfl, rfl, by decide +kernel, rfl, by decide +kernel, by decide +kernel⟩
theorem sc_is_word : FnScope ["value"] ["value"] (defScope s_is_word) := ⟨rfl, rfl, rfl, by decide +kernel, rfl, by decide +kernel, by decide +kernel⟩
theorem sc_check_words : FnScope ["words", "index", "word"] ["words"] (defScope s_check_words) := ⟨rfl, rfl, rfl, by decide +kernel, rfl, by decide +kernel, by decide +kernel⟩
theorem sc_row_behind : FnScope ["words", "first", "row", "openings", "word", "parts"] ["words", "first"] (defScope s_row_behind) := ⟨rfl, rfl, rfl, by decide +kernel, rfl, by decide +kernel, by decide +kernel⟩
theorem sc_needs_of : FnScope ["words", "row", "needs", "word", "parts", "openings", "failing", "number"] ["words"] (defScope s_needs_of) := ⟨rfl, rfl, rfl, by decide +kernel, rfl, by decide +kernel, by decide +kernel⟩
theorem sc_form_of : FnScope ["words", "row", "openings", "failing", "number"] ["words"] (defScope s_form_of) := ⟨rfl, rfl, rfl, by decide +kernel, rfl, by decide +kernel, by decide +kernel⟩
theorem sc_normal_form : FnScope ["words"] ["words"] (defScope s_normal_form) := ⟨rfl, rfl, rfl, by decide +kernel, rfl, by decide +kernel, by decide +kernel⟩
theorem sc_law_source : FnScope ["cell", "k"] ["cell", "k"] (defScope s_law_source) := ⟨rfl, rfl, rfl, by decide +kernel, rfl, by decide +kernel, by decide +kernel⟩
theorem sc_law_draw : FnScope ["source", "span", "digit", "mixed"] ["source", "span"] (defScope s_law_draw) := ⟨rfl, rfl, rfl, by decide +kernel, rfl, by decide +kernel, by decide +kernel⟩
theorem sc_law_word_here : FnScope ["source", "size", "one", "two", "begin", "drawn", "name_here", "some"] ["source", "size"] (defScope s_law_word_here) := ⟨rfl, rfl, rfl, by decide +kernel, rfl, by decide +kernel, by decide +kernel⟩
theorem sc_law_some_words : FnScope ["source", "most", "size", "lap"] ["source", "most"] (defScope s_law_some_words) := ⟨rfl, rfl, rfl, by decide +kernel, rfl, by decide +kernel, by decide +kernel⟩
theorem sc_law_played : FnScope ["words_here", "first", "row", "made", "word", "one", "rest"] ["words_here", "first"] (defScope s_law_played) := ⟨rfl, rfl, rfl, by decide +kernel, rfl, by decide +kernel, by decide +kernel⟩
theorem sc_law_form : FnScope ["words_here", "full", "row", "made", "fails", "needs", "n"] ["words_here"] (defScope s_law_form) := ⟨rfl, rfl, rfl, by decide +kernel, rfl, by decide +kernel, by decide +kernel⟩
theorem sc_law_right : FnScope ["row", "before", "due"] ["row"] (defScope s_law_right) := ⟨rfl, rfl, rfl, by decide +kernel, rfl, by decide +kernel, by decide +kernel⟩
theorem sc_law_holds : FnScope ["source", "most", "lap", "row", "told"] ["source", "most"] (defScope s_law_holds) := ⟨rfl, rfl, rfl, by decide +kernel, rfl, by decide +kernel, by decide +kernel⟩
theorem sc_law : FnScope ["script", "k", "cell"] ["script"] (defScope s_law) := ⟨rfl, rfl, rfl, by decide +kernel, rfl, by decide +kernel, by decide +kernel⟩
/-- what the top has left -/
structure Txt (K : PySem.W.Frag) (mg : Str → Option Value) : Prop where
  c_NUMBERS : GK mg "NUMBERS" (.int 10)
  c_LETTERS : GK mg "LETTERS" (.str "abcdefghijklmnopqrstuvwxyz")
  c_MOST_LETTERS : GK mg "MOST_LETTERS" (.int 8)
  c_DIGITS : GK mg "DIGITS" (.str "0123456789")
  c_MOST_WORDS : GK mg "MOST_WORDS" (.int 40)
  d_is_name : DefAt K mg "is_name" ["value"] s_is_name
  d_parts_of : DefAt K mg "parts_of" ["word"] s_parts_of
  d_is_word : DefAt K mg "is_word" ["value"] s_is_word
  d_check_words : DefAt K mg "check_words" ["words"] s_check_words
  d_row_behind : DefAt K mg "row_behind" ["words", "first"] s_row_behind
  d_needs_of : DefAt K mg "needs_of" ["words"] s_needs_of
  d_form_of : DefAt K mg "form_of" ["words"] s_form_of
  d_normal_form : DefAt K mg "normal_form" ["words"] s_normal_form
  d_law_source : DefAt K mg "_law_source" ["cell", "k"] s_law_source
  d_law_draw : DefAt K mg "_law_draw" ["source", "span"] s_law_draw
  d_law_word_here : DefAt K mg "_law_word_here" ["source", "size"] s_law_word_here
  d_law_some_words : DefAt K mg "_law_some_words" ["source", "most"] s_law_some_words
  d_law_played : DefAt K mg "_law_played" ["words_here", "first"] s_law_played
  d_law_form : DefAt K mg "_law_form" ["words_here"] s_law_form
  d_law_right : DefAt K mg "_law_right" ["row"] s_law_right
  d_law_holds : DefAt K mg "_law_holds" ["source", "most"] s_law_holds
  d_law : DefAt K mg "law" ["script"] s_law
  b_all : mg "all" = none
  b_enumerate : mg "enumerate" = none
  b_int : mg "int" = none
  b_isinstance : mg "isinstance" = none
  b_len : mg "len" = none
  b_list : mg "list" = none
  b_max : mg "max" = none
  b_min : mg "min" = none
  b_range : mg "range" = none
  b_repr : mg "repr" = none
  b_sorted : mg "sorted" = none
  b_str : mg "str" = none
  b_tuple : mg "tuple" = none
section
variable {P : Program} {w : World} {K : PySem.W.Frag} {mg : Str → Option Value} {base : Heap}
/-! ## The deck: [digits left, a number mixed of all, draws made], and draws from it -/
/-- all that is tracked stays, but for d -/
def Kp (d : Addr) (H H' : Hp) : Prop := ∀ a o, a ≠ d → H a = some o → H' a = some o
theorem Kp.refl (d : Addr) (H : Hp) : Kp d H H := fun _ _ _ h => h
theorem Kp.trans {d : Addr} {H H1 H2 : Hp} (a : Kp d H H1) (b : Kp d H1 H2) : Kp d H H2 := fun c o n h => b c o n (a c o n h)
theorem Kp.new {d p : Addr} {H H' : Hp} {o : HO} (a : Kp d H H') (h : H' p = none) : Kp d H (upd H' p o) := fun c u n e => by
  have e1 := a c u n e
  rw [upd_ne (ne_of_none e1 h)]
  exact e1
theorem Kp.seq {K : PySem.W.Frag} {d a : Addr} {H H' : Hp} {xs : List V} (k : Kp d H H') (n : a ≠ d) (h : SqL K H a xs) : SqL K H' a xs := by
  rcases h with (h | ⟨o, h⟩) | h
  · exact .inl (.inl (k _ _ n h))
  · exact .inl (.inr ⟨o, k _ _ n h⟩)
  · exact .inr h
theorem Kp.free {d a : Addr} {H H' : Hp} (k : Kp d H H') (n : a ≠ d) (h : H' a = none) : H a = none := by
  cases q : H a with
  | none => rfl
  | some o => rw [k a o n q] at h; cases h
theorem Kp.put {d p : Addr} {H H' : Hp} {o : HO} (a : Kp d H H') (h : H p = none) : Kp d H (upd H' p o) := fun c u n e => by
  rw [upd_ne (ne_of_none e h)]
  exact a c u n e
theorem Kp.at {d p : Addr} {H H' : Hp} {o : HO} (k : Kp d (upd H p o) H') (n : d ≠ p) : H' p = some o := k p _ n.symm upd_same
/-- a deck from which at most m draws were made -/
def Dk (d : Addr) (m : Nat) (H : Hp) : Prop := ∃ x y c : Int, H d = some (.lst [.int x, .int y, .int c]) ∧ 0 ≤ x ∧ 0 ≤ y ∧ y < 10 ^ 70 ∧ 0 ≤ c ∧ c ≤ m
theorem Dk.mono {d : Addr} {m n : Nat} {H : Hp} (h : Dk d m H) (l : m ≤ n) : Dk d n H := by
  obtain ⟨x, y, c, h1, h2, h3, h4, h5, h6⟩ := h
  exact ⟨x, y, c, h1, h2, h3, h4, h5, by omega⟩
theorem Dk.new {d p : Addr} {m : Nat} {H : Hp} {o : HO} (h : Dk d m H) (n : H p = none) : Dk d m (upd H p o) := by
  obtain ⟨x, y, c, h1, h2⟩ := h
  refine ⟨x, y, c, ?_, h2⟩
  rw [upd_ne (ne_of_none h1 n)]
  exact h1
theorem Dk.put {d p : Addr} {m : Nat} {H : Hp} {o : HO} (h : Dk d m H) (n : d ≠ p) : Dk d m (upd H p o) := by
  obtain ⟨x, y, c, h1, h2⟩ := h
  exact ⟨x, y, c, by rw [upd_ne n]; exact h1, h2⟩
theorem Dk.ne {d p : Addr} {m : Nat} {H : Hp} (h : Dk d m H) (n : H p = none) : d ≠ p := by
  obtain ⟨x, y, c, h1, h2⟩ := h
  exact ne_of_none h1 n
theorem Kp.of {d : Addr} {H H' : Hp} (h : Same H H') : Kp d H H' := fun a o _ e => h a o e
theorem Dk.same {d : Addr} {m : Nat} {H H' : Hp} (h : Dk d m H) (k : Same H H') : Dk d m H' := by
  obtain ⟨x, y, c, h1, h2⟩ := h
  exact ⟨x, y, c, k _ _ h1, h2⟩
theorem Dk.ne' {d p : Addr} {m : Nat} {H H' : Hp} (h : Dk d m H) (k : Kp d H H') (n : H p = none) : p ≠ d := (h.ne n).symm
/-- draws that may be made at all -/
def LIM : Nat := 1000000000
def Φ_law_draw (K : PySem.W.Frag) (vd vm : V) (H : Hp) (Q : VK) : Prop := ∃ (d : Addr) (n : Int) (m : Nat), vd = .ref d ∧ vm = .int n ∧ 0 < n ∧ n < 1073741824 ∧ Dk d m H ∧ m < LIM ∧
  ∀ (v : Int) (H' : Hp), 0 ≤ v → v < n → Dk d (m + 1) H' → Kp d H H' → Q (.int v) H'
theorem use_draw {K : PySem.W.Frag} {d : Addr} {n : Int} {m : Nat} {H : Hp} {Q : VK} (hd : Dk d m H) (h0 : 0 < n) (h1 : n < 1073741824) (hm : m < LIM)
    (q : ∀ (v : Int) (H' : Hp), 0 ≤ v → v < n → Dk d (m + 1) H' → Kp d H H' → Q (.int v) H') : Φ_law_draw K (.ref d) (.int n) H Q := ⟨d, n, m, rfl, rfl, h0, h1, hd, hm, q⟩
theorem divOk {i j : Int} (h0 : 0 < j) (h1 : j < 1073741824) : CDivW i j := wide_div (b := 64) h0 (by omega) (by decide) (by decide)
theorem bits_lt {i : Int} {n : Nat} (h0 : 0 ≤ i) (h1 : i < 2 ^ n) (hn : 0 < n) : Builtin.Int.intBits i ≤ n := by
  unfold Builtin.Int.intBits
  split
  · omega
  · have : i.natAbs < 2 ^ n := by
      have e : ((2 ^ n : Nat) : Int) = 2 ^ n := by norm_cast
      omega
    have := PySem.Flt.log2_lt_of hn this
    omega
def Φ_law_deck (K : PySem.W.Frag) (vs vk : V) (H : Hp) (Q : VK) : Prop := ∃ (a : Addr) (ns : List Int) (k : Int), vs = .ref a ∧ vk = .int k ∧ SqL K H a (ns.map V.int) ∧ ns.length ≤ 63 ∧ 0 ≤ k ∧ k < 64 ∧
  ∀ (d : Addr) (H' : Hp), H d = none → Dk d 0 H' → Same H H' → Q (.ref d) H'
theorem atI_int {ns : List Int} {k : Int} (h0 : 0 ≤ k) (h1 : k < ns.length) : ∃ z, atI (ns.map V.int) k = some (V.int z) := by
  obtain ⟨j, rfl⟩ : ∃ j : Nat, k = (j : Int) := ⟨k.toNat, by omega⟩
  have hj : j < ns.length := by omega
  exact ⟨ns[j], atI_nat (by rw [List.getElem?_map, List.getElem?_eq_getElem hj]; rfl)⟩
/-- a promise: draws at most c, a text of at most L signs -/
def TxtOf (L c : Nat) (vd : V) (H : Hp) (Q : VK) : Prop := ∃ (d : Addr) (m : Nat), vd = .ref d ∧ Dk d m H ∧ m + c ≤ LIM ∧ ∀ (z : Str) (H' : Hp), z.length ≤ L → Dk d (m + c) H' → Kp d H H' → Q (.str z) H'
/-- a promise: draws at most 10, a text of at most two signs more -/
def BentOf (K : PySem.W.Frag) (vd vp : V) (H : Hp) (Q : VK) : Prop := ∃ (d : Addr) (z : Str) (m : Nat), vd = .ref d ∧ vp = .str z ∧ z.length ≤ 500 ∧ Dk d m H ∧ m + 10 ≤ LIM ∧
  ∀ (y : Str) (H' : Hp), y.length ≤ z.length + 2 → Dk d (m + 10) H' → Kp d H H' → Q (.str y) H'

/-! ## Redirections: ends, words, what a row of words leaves -/
inductive En where
  | non | old (k : Nat) | new (k : Nat)
  deriving DecidableEq
def enD : En → PyData
  | .non => .none
  | .old k => .tuple [.str "old", .int k]
  | .new k => .tuple [.str "new", .int k]
inductive Wd where
  | close (n : Nat) | copy (s d : Nat) | opn (n c : Nat) (nm : List Nat)
def wdL : Wd → List Nat
  | .close n => [48 + n, 62, 38, 45]
  | .copy s d => [48 + d, 62, 38, 48 + s]
  | .opn n c nm => (48 + n) :: c :: nm
def wdS (w : Wd) : Str := mk (wdL w)
def nmOk (nm : List Nat) : Prop := 1 ≤ nm.length ∧ nm.length ≤ 8 ∧ ∀ c ∈ nm, 97 ≤ c ∧ c ≤ 122
def Wok : Wd → Prop
  | .close n => n < 10
  | .copy s d => s < 10 ∧ d < 10
  | .opn n c nm => n < 10 ∧ (c = 62 ∨ c = 60) ∧ nmOk nm
def wdD : Wd → PyData
  | .close n => .tuple [.str "close", .int n]
  | .copy s d => .tuple [.str "copy", .int s, .int d]
  | .opn n c nm => .tuple [.str "open", .int n, .str (sg c), .str (mk nm)]
theorem dig_in {n : Nat} (h : n < 10) : inS (sg (48 + n)) "0123456789" = true := by
  have : ∀ n, n < 10 → inS (sg (48 + n)) "0123456789" = true := by decide +kernel
  exact this n h
theorem int_dig {n : Nat} (h : n < 10) : PySem.intText? (sg (48 + n)) = some (n : Int) := by
  have : ∀ n, n < 10 → PySem.intText? (sg (48 + n)) = some (n : Int) := by decide +kernel
  exact this n h
theorem rd_intS {H : Hp} {Q : VK} {z : Str} {n : Int} (h : PySem.intText? z = some n) (l : z.length ≤ 640) (q : Q (.int n) H) : xInt [.str z] H Q := ⟨n, h, l, q⟩
theorem let_in {c : Nat} (h : 97 ≤ c ∧ c ≤ 122) : inS (sg c) "abcdefghijklmnopqrstuvwxyz" = true := by
  have : ∀ k, k < 26 → inS (sg (97 + k)) "abcdefghijklmnopqrstuvwxyz" = true := by decide +kernel
  have := this (c - 97) (by omega)
  rwa [show 97 + (c - 97) = c by omega] at this
def Φ_is_name (K : PySem.W.Frag) (v : V) (H : Hp) (Q : VK) : Prop := ∃ z : Str, v = .str z ∧ nmOk (tl z) ∧ ∀ H', Same H H' → Q (.bl true) H'
theorem ok_is_name (T : Txt K mg) {f : Addr} {fd : FuncData} (F : Fun K "is_name" "is_name" s_is_name f fd) : Keeps P w K mg base CX0 1 f fd ["value"] (sp1 (Φ_is_name K)) := by
  refine keeps0_of F sc_is_name (fun vs H Q E h => ?_) (fun cdv A outer s H vs Q E hr h => ?_)
  · obtain ⟨_, rfl, _⟩ := h
    rfl
  obtain ⟨v_value, rfl, h⟩ := h
  have hu := hr.hu
  refine ⟨_, (pss_one (ps_ret (pe_and (pe_callB (isiX (K := K)) (by rfl) T.b_isinstance (by decide +kernel) (pa_cons (pv 0) (pa_cons (pe_bltn (v := .ty "str") (by rfl) T.b_str (by decide +kernel) rfl) pa_nil))) (pe_and (pe_chain oLe oLe pe_int (pe_callB (call_lenX (K := K)) (by rfl) T.b_len (by decide +kernel) (pa_cons (pv 0) pa_nil)) (pe_gk (by rfl) T.c_MOST_LETTERS)) (pe_one (pe_callB (allX (K := K) rfl) (by rfl) T.b_all (by decide +kernel) (pa_cons (pe_lc (own := [("sign", 1)]) rfl sc_is_name.nd (pi_any (K := K) (pv 0)) (blkOk_by (own := [("sign", 1)]) (N := ["value", "sign"]) (sc := defScope s_is_name) (by decide +kernel)) (fun _ _ _ _ _ => pg_name (i := 1) sc_is_name.nd rfl (by first | exact Or.inl rfl | exact Or.inr rfl)) (fun _ _ _ _ _ => pts_nil) (fun _ _ _ _ _ => (pe_cmpR (oIn (K := K)) (pv 1) (pe_gk (by rfl) T.c_LETTERS) (by rfl)))) pa_nil))))))), ?_⟩
  rw [show start ["value", "sign"] [v_value] = [some v_value, none] from rfl]
  try dsimp only [cxOf, Cx.nox, Cx.wish]
  obtain ⟨z, rfl, ⟨h1, h2, h3⟩, q⟩ := h
  rw [len_tl] at h1 h2
  walk_at "rd"
  refine rd_yesI (decide_eq_true (by omega)) ?_
  walk_at "rd"
  refine rd_yesI (decide_eq_true (by omega)) ?_
  walk_at "rd"
  refine rd_lcS ?_
  walk_at "rd"
  refine rd_mapS (fun _ => true) (fun _ => .bl true) (fun _ => rfl) (by omega) (fun _ _ => pt_yes) ?_ ?_
  · intro x hx _
    obtain ⟨c, hc, rfl⟩ := List.mem_map.mp hx
    intro H1 s1 QE q1
    walk_at "rd"
    rw [show inS ⟨#[c]⟩ "abcdefghijklmnopqrstuvwxyz" = true from let_in (h3 c hc)]
    exact q1 H1 (Same.refl H1)
  · intro D H1 hD s1 h4
    walk_at "rd"
    refine rd_all (bs := (signs z).map fun _ => true) (SqL.of (by rw [h4, List.filter_eq_self.mpr fun _ _ => rfl, List.map_map]; rfl)) ?_
    rw [show (((signs z).map fun _ => true).all id) = true by rw [List.all_map]; exact List.all_eq_true.mpr fun _ _ => rfl]
    exact q H1 s1
def Φ_parts_of (K : PySem.W.Frag) (v : V) (H : Hp) (Q : VK) : Prop := ∃ x : Wd, v = .str (wdS x) ∧ Wok x ∧ ∀ (H' : Hp) (u : V), Same H H' → Im H' u (wdD x) → Q u H'
theorem wd_at {x : Wd} {i c : Nat} (h : (wdL x)[i]? = some c) : atI (wdS x).cps.toList (i : Int) = some c := atI_nat (by show (tl (mk (wdL x)))[i]? = _; rw [tl_mk]; exact h)
theorem wd_len (x : Wd) : (wdS x).length = (wdL x).length := len_mk _
theorem ok_parts_of (T : Txt K mg) {f : Addr} {fd : FuncData} (F : Fun K "parts_of" "parts_of" s_parts_of f fd) : Keeps P w K mg base CX0 2 f fd ["word"] (sp1 (Φ_parts_of K)) := by
  have c_is_name := cal (P := P) (w := w) (base := base) T.d_is_name fun F => ok_is_name T F
  refine keeps0_of F sc_parts_of (fun vs H Q E h => ?_) (fun cdv A outer s H vs Q E hr h => ?_)
  · obtain ⟨_, rfl, _⟩ := h
    rfl
  obtain ⟨v_word, rfl, h⟩ := h
  have hu := hr.hu
  refine ⟨_, (pss_cons (ps_if (PW.pt (pw_or (pt_not (pt_val (pe_callB (isiX (K := K)) (by rfl) T.b_isinstance (by decide +kernel) (pa_cons (pv 0) (pa_cons (pe_bltn (v := .ty "str") (by rfl) T.b_str (by decide +kernel) rfl) pa_nil))))) (pw_or (pt_cmpR oLt (pe_callB (call_lenX (K := K)) (by rfl) T.b_len (by decide +kernel) (pa_cons (pv 0) pa_nil)) pe_int (nomark _)) (pw_or (pt_cmpR (oNotIn (K := K)) (pe_ix (ixX (K := K)) (pv 0) pe_int (fun _ _ => rfl)) (pe_gk (by rfl) T.c_DIGITS) (by rfl)) (pw_or1 (pt_cmpR (oNotIn (K := K)) (pe_ix (ixX (K := K)) (pv 0) pe_int (fun _ _ => rfl)) pe_str (by rfl))))))) (pss_one (ps_ret pe_non)) pss_nil)
      (pss_cons (ps_par (i := 1) (j := 2) rfl sc_parts_of.nd rfl rfl (by decide) rfl rfl (pa_cons (pe_callTy call_intX (by rfl) T.b_int (by decide +kernel) (pa_cons (pe_ix (ixX (K := K)) (pv 0) pe_int (fun _ _ => rfl)) pa_nil)) (pa_cons (pe_slice (sX (K := K)) (pv 0) (po_some pe_int) po_none) pa_nil)) (by rfl))
      (pss_cons (ps_if (PW.pt (pw_and (pt_cmpR (oEq (K := K) hr.u65) (pe_ix (ixX (K := K)) (pv 0) pe_int (fun _ _ => rfl)) pe_str (nomark _)) (pw_and1 (pt_cmpR (oEq (K := K) hr.u65) (pv 2) pe_str (nomark _))))) (pss_one (ps_ret (pe_tup (pa_cons pe_str (pa_cons (pv 1) pa_nil))))) pss_nil)
      (pss_cons (ps_if (PW.pt (pw_and (pt_cmpR (oEq (K := K) hr.u65) (pe_ix (ixX (K := K)) (pv 0) pe_int (fun _ _ => rfl)) pe_str (nomark _)) (pw_and (pt_cmpR (oEq (K := K) hr.u65) (pe_callB (call_lenX (K := K)) (by rfl) T.b_len (by decide +kernel) (pa_cons (pv 2) pa_nil)) pe_int (nomark _)) (pw_and (pt_cmpR (oEq (K := K) hr.u65) (pe_ix (ixX (K := K)) (pv 2) pe_int (fun _ _ => rfl)) pe_str (nomark _)) (pw_and1 (pt_cmpR (oIn (K := K)) (pe_ix (ixX (K := K)) (pv 2) pe_int (fun _ _ => rfl)) (pe_gk (by rfl) T.c_DIGITS) (by rfl))))))) (pss_one (ps_ret (pe_tup (pa_cons pe_str (pa_cons (pe_callTy call_intX (by rfl) T.b_int (by decide +kernel) (pa_cons (pe_ix (ixX (K := K)) (pv 2) pe_int (fun _ _ => rfl)) pa_nil)) (pa_cons (pv 1) pa_nil)))))) pss_nil)
      (pss_one (ps_ret (pe_ifExp (pt_val (pe_cal c_is_name (hr.mono (by decide)) (by rfl) pass0 (pa_cons (pv 2) pa_nil))) (pe_tup (pa_cons pe_str (pa_cons (pv 1) (pa_cons (pe_ix (ixX (K := K)) (pv 0) pe_int (fun _ _ => rfl)) (pa_cons (pv 2) pa_nil))))) pe_non))))))), ?_⟩
  rw [show start ["word", "number", "rest"] [v_word] = [some v_word, none, none] from rfl]
  try dsimp only [cxOf, Cx.nox, Cx.wish]
  obtain ⟨x, rfl, hx, q⟩ := h
  have hl : 3 ≤ (wdL x).length ∧ (wdL x).length ≤ 10 := by
    cases x with
    | close n => exact ⟨Nat.le_of_ble_eq_true rfl, Nat.le_of_ble_eq_true rfl⟩
    | copy s d => exact ⟨Nat.le_of_ble_eq_true rfl, Nat.le_of_ble_eq_true rfl⟩
    | opn n c nm => obtain ⟨_, _, h1, h2, _⟩ := hx; exact ⟨by show 3 ≤ nm.length + 1 + 1; omega, by show nm.length + 1 + 1 ≤ 10; omega⟩
  have hw := wd_len x
  obtain ⟨n, c, r, ex, hn, hc⟩ : ∃ n c r, wdL x = (48 + n) :: c :: r ∧ n < 10 ∧ (c = 62 ∨ c = 60) := by
    cases x with
    | close n => exact ⟨n, _, _, rfl, hx, .inl rfl⟩
    | copy s d => exact ⟨d, _, _, rfl, hx.2, .inl rfl⟩
    | opn n c nm => exact ⟨n, c, _, rfl, hx.1, hx.2.1⟩
  have a0 : atI (wdS x).cps.toList 0 = some (48 + n) := wd_at (i := 0) (by rw [ex]; rfl)
  have a1 : atI (wdS x).cps.toList 1 = some c := wd_at (i := 1) (by rw [ex]; rfl)
  have er : tl (cutS (wdS x) (some 2) none) = r := by
    have := tl_drop (wdS x) 2
    rw [show tl (wdS x) = wdL x from tl_mk _, ex] at this
    exact this
  walk_at "rd"
  refine rd_noI (decide_eq_false (by omega)) ?_
  walk_at "rd"
  refine rd_ixS (szOk (by omega)) a0 ?_
  walk_at "rd"
  rw [show inS ⟨#[48 + n]⟩ "0123456789" = true from dig_in hn]
  walk_at "rd"
  refine rd_ixS (szOk (by omega)) a1 ?_
  walk_at "rd"
  rw [show inS ⟨#[c]⟩ "><" = true from by rcases hc with rfl | rfl <;> decide +kernel]
  walk_at "rd"
  refine rd_ixS (szOk (by omega)) a0 ?_
  walk_at "rd"
  refine rd_intS (int_dig hn) (by show 1 ≤ 640; decide) ?_
  walk_at "rd"
  refine rd_ixS (szOk (by omega)) a1 ?_
  walk_at "rd"
  have hr2 : cutS (wdS x) (some 2) none = mk r := str_ext (by rw [er, tl_mk])
  rw [hr2]
  clear er hr2
  have lr : (mk r).length ≤ 8 := by rw [len_mk]; rw [ex, List.length_cons, List.length_cons] at hl; omega
  have tup : ∀ (p : Addr) (ds : List V), H p = none → Same H (upd H p (.tup ds)) := fun p ds hp => (Same.refl H).new hp
  cases x with
  | close m =>
    obtain ⟨e1, e2⟩ := List.cons.inj ex
    obtain ⟨rfl, rfl⟩ := List.cons.inj e2
    obtain rfl : m = n := by omega
    clear e1 e2
    rw [decide_eq_true (show (⟨#[62]⟩ : Str) = ">" by decide +kernel)]
    walk_at "rd"
    rw [decide_eq_true (show mk [38, 45] = "&-" by decide +kernel)]
    walk_at "rd"
    intro p hp
    exact q _ _ (tup p _ hp) (.mk2 upd_same (.str _) (.int _))
  | copy s d =>
    obtain ⟨e1, e2⟩ := List.cons.inj ex
    obtain ⟨rfl, rfl⟩ := List.cons.inj e2
    obtain rfl : d = n := by omega
    clear e1 e2
    have n45 : decide (mk [38, 48 + s] = "&-") = false := by
      rw [dec_tl, tl_mk, show tl ("&-" : Str) = [38, 45] by decide +kernel]
      refine decide_eq_false fun e => ?_
      simp only [List.cons.injEq, and_true, true_and] at e
      omega
    rw [decide_eq_true (show (⟨#[62]⟩ : Str) = ">" by decide +kernel)]
    walk_at "rd"
    rw [n45]
    walk_at "rd"
    refine rd_ixS (szOk (by omega)) a1 ?_
    walk_at "rd"
    rw [decide_eq_true (show (⟨#[62]⟩ : Str) = ">" by decide +kernel)]
    walk_at "rd"
    refine rd_yesI (decide_eq_true (by rw [len_mk]; rfl)) ?_
    walk_at "rd"
    refine rd_ixS (c := 38) (szOk (by omega)) (atI_nat (j := 0) rfl) ?_
    walk_at "rd"
    rw [decide_eq_true (show (⟨#[38]⟩ : Str) = "&" by decide +kernel)]
    walk_at "rd"
    refine rd_ixS (c := 48 + s) (szOk (by omega)) (atI_nat (j := 1) rfl) ?_
    walk_at "rd"
    rw [show inS ⟨#[48 + s]⟩ "0123456789" = true from dig_in hx.1]
    walk_at "rd"
    refine rd_ixS (c := 48 + s) (szOk (by omega)) (atI_nat (j := 1) rfl) ?_
    walk_at "rd"
    refine rd_intS (int_dig hx.1) (by show 1 ≤ 640; decide) ?_
    walk_at "rd"
    intro p hp
    exact q _ _ (tup p _ hp) (.mk3 upd_same (.str _) (.int _) (.int _))
  | opn m c' nm =>
    obtain ⟨e1, e2⟩ := List.cons.inj ex
    obtain ⟨rfl, rfl⟩ := List.cons.inj e2
    obtain rfl : m = n := by omega
    clear e1 e2
    obtain ⟨f, g, hf⟩ : ∃ f g, nm = f :: g := by
      obtain ⟨_, _, h1, _⟩ := hx
      cases nm with
      | nil => exact absurd h1 (by decide)
      | cons f g => exact ⟨f, g, rfl⟩
    have hf2 : 97 ≤ f ∧ f ≤ 122 := hx.2.2.2.2 f (by rw [hf]; exact List.mem_cons_self)
    have n45 : decide (mk nm = "&-") = false := by
      rw [dec_tl, tl_mk, show tl ("&-" : Str) = [38, 45] by decide +kernel, hf]
      refine decide_eq_false fun e => ?_
      simp only [List.cons.injEq] at e
      omega
    have n38 : decide ((⟨#[f]⟩ : Str) = "&") = false := by
      rw [dec_tl, tl_sg, show tl ("&" : Str) = [38] by decide +kernel]
      refine decide_eq_false fun e => ?_
      simp only [List.cons.injEq] at e
      omega
    rcases hc with rfl | rfl
    · rw [decide_eq_true (show (⟨#[62]⟩ : Str) = ">" by decide +kernel)]
      walk_at "rd"
      rw [n45]
      walk_at "rd"
      refine rd_ixS (szOk (by omega)) a1 ?_
      walk_at "rd"
      rw [decide_eq_true (show (⟨#[62]⟩ : Str) = ">" by decide +kernel)]
      walk_at "rd"
      refine rd_ite (fun _ => ?_) (fun _ => ?_)
      · walk_at "rd"
        refine rd_ixS (c := f) (szOk (by omega)) (atI_nat (j := 0) (by rw [hf]; rfl)) ?_
        walk_at "rd"
        rw [n38]
        walk_at "rd"
        refine ⟨mk nm, rfl, by rw [tl_mk]; exact hx.2.2, fun H1 k1 => ?_⟩
        walk_at "rd"
        refine rd_ixS (szOk (by omega)) a1 ?_
        walk_at "rd"
        intro p hp
        exact q _ _ (k1.new hp) (.mk4 upd_same (.str _) (.int _) (.str _) (.str _))
      · walk_at "rd"
        refine ⟨mk nm, rfl, by rw [tl_mk]; exact hx.2.2, fun H1 k1 => ?_⟩
        walk_at "rd"
        refine rd_ixS (szOk (by omega)) a1 ?_
        walk_at "rd"
        intro p hp
        exact q _ _ (k1.new hp) (.mk4 upd_same (.str _) (.int _) (.str _) (.str _))
    · rw [decide_eq_false (show ¬ (⟨#[60]⟩ : Str) = ">" by decide +kernel)]
      walk_at "rd"
      refine rd_ixS (szOk (by omega)) a1 ?_
      walk_at "rd"
      rw [decide_eq_false (show ¬ (⟨#[60]⟩ : Str) = ">" by decide +kernel)]
      walk_at "rd"
      refine ⟨mk nm, rfl, by rw [tl_mk]; exact hx.2.2, fun H1 k1 => ?_⟩
      walk_at "rd"
      refine rd_ixS (szOk (by omega)) a1 ?_
      walk_at "rd"
      intro p hp
      exact q _ _ (k1.new hp) (.mk4 upd_same (.str _) (.int _) (.str _) (.str _))
def Φ_is_word (K : PySem.W.Frag) (v : V) (H : Hp) (Q : VK) : Prop := ∃ x : Wd, v = .str (wdS x) ∧ Wok x ∧ ∀ H', Same H H' → Q (.bl true) H'
theorem ok_is_word (T : Txt K mg) {f : Addr} {fd : FuncData} (F : Fun K "is_word" "is_word" s_is_word f fd) : Keeps P w K mg base CX0 3 f fd ["value"] (sp1 (Φ_is_word K)) := by
  have c_parts_of := cal (P := P) (w := w) (base := base) T.d_parts_of fun F => ok_parts_of T F
  refine keeps0_of F sc_is_word (fun vs H Q E h => ?_) (fun cdv A outer s H vs Q E hr h => ?_)
  · obtain ⟨_, rfl, _⟩ := h
    rfl
  obtain ⟨v_value, rfl, h⟩ := h
  have hu := hr.hu
  refine ⟨_, (pss_one (ps_ret (pe_cmpR oIsNot (pe_cal c_parts_of (hr.mono (by decide)) (by rfl) pass0 (pa_cons (pv 0) pa_nil)) pe_non (nomark _)))), ?_⟩
  rw [show start ["value"] [v_value] = [some v_value] from rfl]
  try dsimp only [cxOf, Cx.nox, Cx.wish]
  obtain ⟨x, rfl, hx, q⟩ := h
  walk_at "rd"
  refine ⟨x, rfl, hx, fun H1 u k1 hu1 => ?_⟩
  walk_at "rd"
  have e : u ≠ .non := by
    rintro rfl
    cases x <;> cases hu1
  rw [decide_eq_false e]
  exact q H1 k1
/-- a row of words, held -/
def wsV (ws : List Wd) : List V := ws.map fun x => V.str (wdS x)
theorem wsV_at {ws : List Wd} {i : Nat} {v : V} (h : (wsV ws)[i]? = some v) : ∃ x, ws[i]? = some x ∧ v = .str (wdS x) := by
  unfold wsV at h
  rw [List.getElem?_map, Option.map_eq_some_iff] at h
  obtain ⟨x, h1, h2⟩ := h
  exact ⟨x, h1, h2.symm⟩
theorem wsV_len (ws : List Wd) : (wsV ws).length = ws.length := List.length_map _
def Φ_check_words (K : PySem.W.Frag) (v : V) (H : Hp) (Q : VK) : Prop := ∃ (p : Addr) (ws : List Wd), v = .ref p ∧ H p = some (.lst (wsV ws)) ∧ ws.length ≤ 40 ∧ (∀ x ∈ ws, Wok x) ∧ ∀ H', Same H H' → Q .non H'
theorem ok_check_words (T : Txt K mg) {f : Addr} {fd : FuncData} (F : Fun K "check_words" "check_words" s_check_words f fd) : Keeps P w K mg base CX0 4 f fd ["words"] (sp1 (Φ_check_words K)) := by
  have c_is_word := cal (P := P) (w := w) (base := base) T.d_is_word fun F => ok_is_word T F
  refine keeps0_of F sc_check_words (fun vs H Q E h => ?_) (fun cdv A outer s H vs Q E hr h => ?_)
  · obtain ⟨_, rfl, _⟩ := h
    rfl
  obtain ⟨v_words, rfl, h⟩ := h
  have hu := hr.hu
  refine ⟨_, (pss_cons (ps_if (PW.pt (pw_or (pt_not (pt_val (pe_callB (isiX (K := K)) (by rfl) T.b_isinstance (by decide +kernel) (pa_cons (pv 0) (pa_cons (pe_bltn (v := .ty "list") (by rfl) T.b_list (by decide +kernel) rfl) pa_nil))))) (pw_or1 (pt_cmpR oGt (pe_callB (call_lenX (K := K)) (by rfl) T.b_len (by decide +kernel) (pa_cons (pv 0) pa_nil)) (pe_gk (by rfl) T.c_MOST_WORDS) (nomark _))))) (pss_one ps_never) pss_nil)
      (pss_one (ps_for PassesOwn.never rfl (pi_enumX (K := K) (by rfl) T.b_enumerate (pa_cons (pv 0) pa_nil)) (pg_seqX (K := K) rfl (pgs_cons (pg_name (i := 1) sc_check_words.nd rfl (by first | exact Or.inl rfl | exact Or.inr rfl)) (pgs_cons (pg_name (i := 2) sc_check_words.nd rfl (by first | exact Or.inl rfl | exact Or.inr rfl)) pgs_nil))) (pss_one (ps_if (pt_not (pt_val (pe_cal c_is_word (hr.mono (by decide)) (by rfl) pass0 (pa_cons (pv 2) pa_nil)))) (pss_one ps_never) pss_nil))))), ?_⟩
  rw [show start ["words", "index", "word"] [v_words] = [some v_words, none, none] from rfl]
  try dsimp only [cxOf, Cx.nox, Cx.wish]
  obtain ⟨p, ws, rfl, hw, hl, hok, q⟩ := h
  walk_at "rd"
  refine rd_isi (b := true) (.base (.lst hw)) (kit_ty (by decide +kernel)) ?_
  walk_at "rd"
  refine rd_lenL (SqL.of hw) ?_
  walk_at "rd"
  refine rd_noI (decide_eq_false (by rw [wsV_len]; omega)) ?_
  walk_at "rd"
  refine rd_itE (SqL.of hw) (fun i σ H' => Same H H' ∧ ∃ a b : Option V, σ = [some (.ref p), a, b]) ⟨Same.refl H, _, _, rfl⟩ ?_ ?_ ?_
  · rintro i σ H' _ ⟨k, _⟩
    exact SqL.of (k _ _ hw)
  · rintro i x T σ H1 hi ⟨k1, a, b, rfl⟩ hT
    obtain ⟨y, hy, rfl⟩ := wsV_at hi
    refine rd_gtup (SqT.of upd_same) rfl ?_
    walk_at "rd"
    refine ⟨y, rfl, hok y (List.mem_of_getElem? hy), fun H2 k2 => ?_⟩
    walk_at "rd"
    exact ⟨(k1.new hT).trans k2, _, _, rfl⟩
  · rintro σ H1 ⟨k1, a, b, rfl⟩
    walk_at "rd"
    exact q H1 k1
def opD (o : Nat × List Nat) : PyData := .tuple [.str (sg o.1), .str (mk o.2)]
abbrev Ops := List (Nat × List Nat)
/-- what a row of words leaves: the ends, the openings, the closed end that was to be copied -/
def play : List En → Ops → List Wd → List En × Ops × Option Nat
  | row, ops, [] => (row, ops, none)
  | row, ops, .close n :: ws => play (row.set n .non) ops ws
  | row, ops, .copy s d :: ws => if row.getD s .non = .non then (row, ops, some s) else play (row.set d (row.getD s .non)) ops ws
  | row, ops, .opn n c nm :: ws => play (row.set n (.new ops.length)) (ops ++ [(c, nm)]) ws
def failV : Option Nat → V
  | none => .non
  | some k => .int k
def enAll (row : List En) : List PyData := row.map enD
def opAll (ops : Ops) : List PyData := ops.map opD
theorem en_non {H : Hp} {v : V} {e : En} (h : Im H v (enD e)) : decide (v = .non) = decide (e = .non) := by
  refine decide_eq_decide.mpr ⟨fun q => ?_, fun q => ?_⟩
  · rw [q] at h
    cases e <;> first | rfl | cases h
  · rw [q] at h
    exact h.n
theorem en_at {H : Hp} {xs : List V} {row : List En} {s : Nat} (h : ImAll H xs (enAll row)) (hl : row.length = 10) (hs : s < 10) : ∃ v, atI xs (s : Int) = some v ∧ Im H v (enD (row.getD s .non)) ∧ ixN xs.length (s : Int) = some s := by
  have e : row[s]? = some (row.getD s .non) := by
    rw [List.getD_eq_getElem?_getD, List.getElem?_eq_getElem (by omega)]
    rfl
  obtain ⟨v, h1, h2⟩ := h.get (i := s) (d := enD (row.getD s .non)) (by unfold enAll; rw [List.getElem?_map, e]; rfl)
  have l := h.length
  unfold enAll at l
  rw [List.length_map, hl] at l
  refine ⟨v, atI_nat h1, h2, ?_⟩
  rw [l]
  exact (show ∀ s, s < 10 → ixN 10 ((s : Nat) : Int) = some s by decide +kernel) s hs
theorem en_set {row : List En} {d : Nat} {e : En} : enAll (row.set d e) = (enAll row).set d (enD e) := by
  unfold enAll
  rw [List.map_set]
def Φ_row_behind (K : PySem.W.Frag) (vw vf : V) (H : Hp) (Q : VK) : Prop := ∃ (p f : Addr) (ws : List Wd) (row : List En) (fs : List V), vw = .ref p ∧ vf = .ref f ∧ SqL K H p (wsV ws) ∧ ws.length ≤ 100 ∧ (∀ x ∈ ws, Wok x) ∧ SqL K H f fs ∧ ImAll H fs (enAll row) ∧ row.length = 10 ∧
  ∀ (H' : Hp) (t r o : Addr) (xs ys : List V), Same H H' → H r = none → H o = none → r ≠ o → H' t = some (.tup [.ref r, .ref o, failV (play row [] ws).2.2]) → H' r = some (.lst xs) → ImAll H' xs (enAll (play row [] ws).1) →
    H' o = some (.lst ys) → ImAll H' ys (opAll (play row [] ws).2.1) → Q (.ref t) H'
theorem play_close {row : List En} {ops : Ops} {n : Nat} {ws : List Wd} : play row ops (.close n :: ws) = play (row.set n .non) ops ws := rfl
theorem play_stop {row : List En} {ops : Ops} {s d : Nat} {ws : List Wd} (h : row.getD s .non = .non) : play row ops (.copy s d :: ws) = (row, ops, some s) := if_pos h
theorem play_copy {row : List En} {ops : Ops} {s d : Nat} {ws : List Wd} (h : row.getD s .non ≠ .non) : play row ops (.copy s d :: ws) = play (row.set d (row.getD s .non)) ops ws := if_neg h
theorem play_opn {row : List En} {ops : Ops} {n c : Nat} {nm : List Nat} {ws : List Wd} : play row ops (.opn n c nm :: ws) = play (row.set n (.new ops.length)) (ops ++ [(c, nm)]) ws := rfl
theorem ok_row_behind (T : Txt K mg) {f : Addr} {fd : FuncData} (F : Fun K "row_behind" "row_behind" s_row_behind f fd) : Keeps P w K mg base CX0 3 f fd ["words", "first"] (sp2 (Φ_row_behind K)) := by
  have c_parts_of := cal (P := P) (w := w) (base := base) T.d_parts_of fun F => ok_parts_of T F
  refine keeps0_of F sc_row_behind (fun vs H Q E h => ?_) (fun cdv A outer s H vs Q E hr h => ?_)
  · obtain ⟨_, _, rfl, _⟩ := h
    rfl
  obtain ⟨v_words, v_first, rfl, h⟩ := h
  have hu := hr.hu
  refine ⟨_, (pss_cons (ps_par (i := 2) (j := 3) rfl sc_row_behind.nd rfl rfl (by decide) rfl rfl (pa_cons (pe_callTy (callListX (K := K)) (by rfl) T.b_list (by decide +kernel) (pa_cons (pv 1) pa_nil)) (pa_cons (pe_lst pa_nil) pa_nil)) (by rfl))
      (pss_cons (ps_for PassesOwn.never rfl (pi_any (K := K) (pv 0)) (pg_name (i := 4) sc_row_behind.nd rfl (by first | exact Or.inl rfl | exact Or.inr rfl)) (pss_cons (ps_set (i := 5) sc_row_behind.nd rfl (by first | exact Or.inl rfl | exact Or.inr rfl) (pe_cal c_parts_of (hr.mono (by decide)) (by rfl) pass0 (pa_cons (pv 4) pa_nil)))
      (pss_one (ps_if (pt_cmpR (oEq (K := K) hr.u65) (pe_ix (ixX (K := K)) (pv 5) pe_int (fun _ _ => rfl)) pe_str (nomark _)) (pss_cons (ps_if (pt_cmpR oIs (pe_ix (ixX (K := K)) (pv 2) (pe_ix (ixX (K := K)) (pv 5) pe_int (fun _ _ => rfl)) (fun _ _ => rfl)) pe_non (nomark _)) (pss_one (ps_ret (pe_tup (pa_cons (pv 2) (pa_cons (pv 3) (pa_cons (pe_ix (ixX (K := K)) (pv 5) pe_int (fun _ _ => rfl)) pa_nil)))))) pss_nil)
      (pss_one (ps_asg (pe_ix (ixX (K := K)) (pv 2) (pe_ix (ixX (K := K)) (pv 5) pe_int (fun _ _ => rfl)) (fun _ _ => rfl)) (pg_sub (pv 2) (pe_ix (ixX (K := K)) (pv 5) pe_int (fun _ _ => rfl)) set_list)))) (pss_one (ps_if (pt_cmpR (oEq (K := K) hr.u65) (pe_ix (ixX (K := K)) (pv 5) pe_int (fun _ _ => rfl)) pe_str (nomark _)) (pss_one (ps_asg pe_non (pg_sub (pv 2) (pe_ix (ixX (K := K)) (pv 5) pe_int (fun _ _ => rfl)) set_list))) (pss_cons (ps_asg (pe_tup (pa_cons pe_str (pa_cons (pe_callB (call_lenX (K := K)) (by rfl) T.b_len (by decide +kernel) (pa_cons (pv 3) pa_nil)) pa_nil))) (pg_sub (pv 2) (pe_ix (ixX (K := K)) (pv 5) pe_int (fun _ _ => rfl)) set_list))
      (pss_one (ps_expr (pe_bmX (K := K) PySem.F.plainAttrs_list PySem.F.slot_list_append PySem.F.type_list_append mt_append (pv 3) (pa_cons (pe_tup (pa_cons (pe_ix (ixX (K := K)) (pv 5) pe_int (fun _ _ => rfl)) (pa_cons (pe_ix (ixX (K := K)) (pv 5) pe_int (fun _ _ => rfl)) pa_nil))) pa_nil)))))))))))
      (pss_one (ps_ret (pe_tup (pa_cons (pv 2) (pa_cons (pv 3) (pa_cons pe_non pa_nil)))))))), ?_⟩
  rw [show start ["words", "first", "row", "openings", "word", "parts"] [v_words, v_first] = [some v_words, some v_first, none, none, none, none] from rfl]
  try dsimp only [cxOf, Cx.nox, Cx.wish]
  obtain ⟨p, f, ws, row, fs, rfl, rfl, hw, hwl, hok, hf, im, hl, q⟩ := h
  walk_at "rd"
  refine rd_lstL hf fun r hr1 => ?_
  walk_at "rd"
  intro o ho
  walk_at "rd"
  have ro : r ≠ o := ne_of_none upd_same ho
  have ho' : H o = none := by rw [upd_ne ro.symm] at ho; exact ho
  refine rd_forL ?_
  walk_at "rd"
  refine rd_itL (xs := wsV ws) ((((Same.refl H).new hr1).new ho).seq hw) (fun i σ H' => Same H H' ∧ ∃ (row' : List En) (ops : Ops) (xs ys : List V) (a b : Option V), row'.length = 10 ∧ H' r = some (.lst xs) ∧ H' o = some (.lst ys) ∧ ImAll H' xs (enAll row') ∧ ImAll H' ys (opAll ops) ∧ ops.length ≤ i ∧ play row [] ws = play row' ops (ws.drop i) ∧ σ = [some (.ref p), some (.ref f), some (.ref r), some (.ref o), a, b])
    ⟨((Same.refl H).new hr1).new ho, row, [], fs, [], none, none, hl, by rw [upd_ne ro]; exact upd_same, upd_same, im.up (Tp.of (((Same.refl H).new hr1).new ho)), .nil, Nat.le_refl _, by rw [List.drop_zero], rfl⟩ ?_ ?_ ?_
  · rintro i σ H' _ ⟨k, _⟩
    exact k.seq hw
  · rintro i x σ H1 hi ⟨k1, row', ops, xs, ys, a, b, hl', h1, h2, im1, im2, hops, eq, rfl⟩
    obtain ⟨y, hy, rfl⟩ := wsV_at hi
    have hyok := hok y (List.mem_of_getElem? hy)
    have dy : ws.drop i = y :: ws.drop (i + 1) := by
      obtain ⟨l, e⟩ := List.getElem?_eq_some_iff.mp hy
      rw [List.drop_eq_getElem_cons l, e]
    have hi' : i < ws.length := (List.getElem?_eq_some_iff.mp hy).1
    rw [dy] at eq
    walk_at "rd"
    refine ⟨y, rfl, hyok, fun H2 u k2 hu2 => ?_⟩
    walk_at "rd"
    have g1 := k2 _ _ h1
    have g2 := k2 _ _ h2
    have jm1 := im1.up (Tp.of k2)
    have jm2 := im2.up (Tp.of k2)
    have kk := k1.trans k2
    cases y with
    | copy s d =>
      obtain ⟨t, x0, x1, x2, rfl, ht, i0, i1, i2⟩ := hu2.t3
      obtain rfl := i0.s
      obtain rfl := i1.i
      obtain rfl := i2.i
      refine rd_ixT (SqT.of ht) rfl ?_
      walk_at "rd"
      refine rd_yesI (by decide +kernel) ?_
      walk_at "rd"
      refine rd_ixT (SqT.of ht) rfl ?_
      obtain ⟨v, hv, imv, _⟩ := en_at jm1 hl' hyok.1
      obtain ⟨_, _, _, hd⟩ := en_at jm1 hl' hyok.2
      refine rd_ixL (SqL.of g1) hv ?_
      walk_at "rd"
      rw [en_non imv]
      refine rd_ite (fun hn => ?_) (fun hn => ?_)
      · have hn := of_decide_eq_true hn
        rw [play_stop hn] at eq
        rw [eq] at q
        walk_at "rd"
        refine rd_ixT (SqT.of ht) rfl ?_
        walk_at "rd"
        intro t' ht'
        have k3 := (Same.refl H2).new (o := .tup [.ref r, .ref o, .int s]) ht'
        exact q _ t' r o xs ys (kk.trans k3) hr1 ho' ro upd_same (k3 _ _ g1) (jm1.up (Tp.of k3)) (k3 _ _ g2) (jm2.up (Tp.of k3))
      · have hn := of_decide_eq_false hn
        rw [play_copy hn] at eq
        walk_at "rd"
        refine rd_ixT (SqT.of ht) rfl ?_
        refine rd_ixL (SqL.of g1) hv ?_
        walk_at "rd"
        refine rd_ixT (SqT.of ht) rfl ?_
        refine rd_setL g1 hd ?_
        walk_at "rd"
        have tp := (Tp.refl H2).lst (o := .lst (xs.set d v)) g1
        exact ⟨kk.put hr1, _, ops, _, ys, _, _, by rw [List.length_set]; exact hl', upd_same, by rw [upd_ne ro.symm]; exact g2, by rw [en_set]; exact (jm1.set d imv).up tp, jm2.up tp, by omega, eq, rfl⟩
    | close n =>
      obtain ⟨t, x0, x1, rfl, ht, i0, i1⟩ := hu2.t2
      obtain rfl := i0.s
      obtain rfl := i1.i
      refine rd_ixT (SqT.of ht) rfl ?_
      walk_at "rd"
      refine rd_noI (by decide +kernel) ?_
      walk_at "rd"
      refine rd_ixT (SqT.of ht) rfl ?_
      walk_at "rd"
      refine rd_yesI (by decide +kernel) ?_
      walk_at "rd"
      refine rd_ixT (SqT.of ht) rfl ?_
      obtain ⟨_, _, _, hd⟩ := en_at jm1 hl' (show n < 10 from hyok)
      refine rd_setL g1 hd ?_
      walk_at "rd"
      rw [play_close] at eq
      have tp := (Tp.refl H2).lst (o := .lst (xs.set n .non)) g1
      exact ⟨kk.put hr1, _, ops, _, ys, _, _, by rw [List.length_set]; exact hl', upd_same, by rw [upd_ne ro.symm]; exact g2, by rw [en_set]; exact (jm1.set n .non).up tp, jm2.up tp, by omega, eq, rfl⟩
    | opn n c nm =>
      obtain ⟨t, x0, x1, x2, x3, rfl, ht, i0, i1, i2, i3⟩ := hu2.t4
      obtain rfl := i0.s
      obtain rfl := i1.i
      obtain rfl := i2.s
      obtain rfl := i3.s
      refine rd_ixT (SqT.of ht) rfl ?_
      walk_at "rd"
      refine rd_noI (by decide +kernel) ?_
      walk_at "rd"
      refine rd_ixT (SqT.of ht) rfl ?_
      walk_at "rd"
      refine rd_noI (by decide +kernel) ?_
      walk_at "rd"
      refine rd_lenL (SqL.of g2) ?_
      walk_at "rd"
      intro t1 ht1
      have k3 := (Same.refl H2).new (o := .tup [.str "new", .int (ys.length : Nat)]) ht1
      walk_at "rd"
      refine rd_ixT (SqT.of (k3 _ _ ht)) rfl ?_
      obtain ⟨_, _, _, hd⟩ := en_at jm1 hl' hyok.1
      refine rd_setL (k3 _ _ g1) hd ?_
      have k4 := (Tp.of k3).lst (o := .lst (xs.set n (.ref t1))) (k3 _ _ g1)
      have tr : t ≠ r := fun e => by rw [e, g1] at ht; cases ht
      have g2' : upd (upd H2 t1 (.tup [.str "new", .int (ys.length : Nat)])) r (.lst (xs.set n (.ref t1))) o = some (.lst ys) := by rw [upd_ne ro.symm]; exact k3 _ _ g2
      walk_at "rd"
      refine rd_tyL (SqL.of g2') ?_
      walk_at "rd"
      refine rd_ixT (SqT.of (k4 _ _ ht)) rfl ?_
      walk_at "rd"
      refine rd_ixT (SqT.of (k4 _ _ ht)) rfl ?_
      walk_at "rd"
      intro t2 ht2
      walk_at "rd"
      have k5 := k4.new (o := .tup [.str (sg c), .str (mk nm)]) ht2
      have rt2 : r ≠ t2 := fun e => by rw [← e, upd_same] at ht2; cases ht2
      have ot2 : o ≠ t2 := fun e => by rw [← e, g2'] at ht2; cases ht2
      have ly := jm2.length
      unfold opAll at ly
      rw [List.length_map] at ly
      refine rd_app (xs := ys) (by rw [upd_ne ot2]; exact g2') (szLt (by omega)) ?_
      walk_at "rd"
      rw [play_opn] at eq
      have g2'' : upd (upd (upd H2 t1 (.tup [.str "new", .int (ys.length : Nat)])) r (.lst (xs.set n (.ref t1)))) t2 (.tup [.str (sg c), .str (mk nm)]) o = some (.lst ys) := by rw [upd_ne ot2]; exact g2'
      have k6 := k5.lst (o := .lst (ys ++ [.ref t2])) g2''
      refine ⟨((((kk.new ht1).put hr1).new ht2).put ho'), row'.set n (.new ops.length), ops ++ [(c, nm)], xs.set n (.ref t1), ys ++ [.ref t2], _, _, by rw [List.length_set]; exact hl', by rw [upd_ne ro, upd_ne rt2]; exact upd_same, upd_same, ?_, ?_, by rw [List.length_append]; simp; omega, eq, rfl⟩
      · rw [en_set]
        have i4 : Im (upd H2 t1 (.tup [.str "new", .int (ys.length : Nat)])) (.ref t1) (enD (.new ops.length)) := by
          rw [ly] 
          exact .mk2 upd_same (.str _) (.int _)
        have tp2 : Tp (upd H2 t1 (.tup [.str "new", .int (ys.length : Nat)])) _ := (((Tp.refl _).lst (o := .lst (xs.set n (.ref t1))) (k3 _ _ g1)).new (o := .tup [.str (sg c), .str (mk nm)]) ht2).lst (o := .lst (ys ++ [.ref t2])) g2''
        exact ((jm1.up (Tp.of k3)).set n i4).up tp2
      · unfold opAll
        rw [List.map_append]
        exact (jm2.up k6).snoc (.mk2 (by rw [upd_ne ot2.symm]; exact upd_same) (.str _) (.str _))
  · rintro σ H1 ⟨k1, row', ops, xs, ys, a, b, hl', h1, h2, im1, im2, hops, eq, rfl⟩
    rw [wsV_len, List.drop_length] at eq
    rw [eq] at q
    walk_at "rd"
    intro t ht
    have k3 := (Same.refl H1).new (o := .tup [.ref r, .ref o, .non]) ht
    exact q _ t r o xs ys (k1.trans k3) hr1 ho' ro upd_same (k3 _ _ h1) (im1.up (Tp.of k3)) (k3 _ _ h2) (im2.up (Tp.of k3))
/-! ### the plain law of ends -/
def fe : En → En
  | .new _ => .new 0
  | e => e
def olds : List En := (List.range 10).map En.old
def hdOf (row : List En) : Wd → List Nat
  | .copy s _ => match row.getD s .non with
    | .old k => [k]
    | _ => []
  | _ => []
def st1 (row : List En) (x : Wd) : List En := (play row [] [x]).1
/-- the ends of the first row that words copy -/
def ndOf : List En → List Wd → List Nat
  | _, [] => []
  | row, x :: ws => hdOf row x ++ ndOf (st1 row x) ws
theorem getD_map (f : En → En) (h : f .non = .non) (row : List En) (s : Nat) : (row.map f).getD s .non = f (row.getD s .non) := by
  rw [List.getD_eq_getElem?_getD, List.getD_eq_getElem?_getD, List.getElem?_map]
  cases row[s]? with
  | none => exact h.symm
  | some e => rfl
theorem fe_non {e : En} : fe e = .non ↔ e = .non := by cases e <;> simp [fe]
theorem getD_fe {row row' : List En} (h : row.map fe = row'.map fe) (s : Nat) : fe (row.getD s .non) = fe (row'.getD s .non) := by rw [← getD_map fe rfl, ← getD_map fe rfl, h]
theorem set_fe {row row' : List En} (h : row.map fe = row'.map fe) (d : Nat) {e e' : En} (k : fe e = fe e') : (row.set d e).map fe = (row'.set d e').map fe := by rw [List.map_set, List.map_set, h, k]
theorem play_fg : ∀ (ws : List Wd) {row row' : List En} {ops ops' : Ops}, row.map fe = row'.map fe → (play row ops ws).2.2 = (play row' ops' ws).2.2
  | [], _, _, _, _, _ => rfl
  | .close n :: ws, row, row', ops, ops', h => play_fg ws (set_fe h n rfl)
  | .opn n c nm :: ws, row, row', ops, ops', h => play_fg ws (set_fe h n rfl)
  | .copy s d :: ws, row, row', ops, ops', h => by
    have g := getD_fe h s
    by_cases e : row.getD s .non = .non
    · have e' : row'.getD s .non = .non := by rw [e] at g; exact fe_non.mp g.symm
      rw [play_stop e, play_stop e']
    · have e' : row'.getD s .non ≠ .non := fun q => e (by rw [q] at g; exact fe_non.mp g)
      rw [play_copy e, play_copy e']
      exact play_fg ws (set_fe h d g)
theorem hd_fg {row row' : List En} (h : row.map fe = row'.map fe) (x : Wd) : hdOf row x = hdOf row' x := by
  cases x with
  | copy s d =>
    have g := getD_fe h s
    show (match row.getD s .non with | .old k => [k] | _ => []) = (match row'.getD s .non with | .old k => [k] | _ => [])
    generalize row.getD s .non = a at g
    generalize row'.getD s .non = b at g
    cases a <;> cases b <;> first | rfl | (cases g; rfl) | cases g
  | _ => rfl
theorem st_fg {row row' : List En} (h : row.map fe = row'.map fe) (x : Wd) : (st1 row x).map fe = (st1 row' x).map fe := by
  unfold st1
  cases x with
  | copy s d =>
    have g := getD_fe h s
    by_cases e : row.getD s .non = .non
    · have e' : row'.getD s .non = .non := by rw [e] at g; exact fe_non.mp g.symm
      rw [play_stop e, play_stop e']
      exact h
    · have e' : row'.getD s .non ≠ .non := fun q => e (by rw [q] at g; exact fe_non.mp g)
      rw [play_copy e, play_copy e']
      exact set_fe h d g
  | close n => exact set_fe h n rfl
  | opn n c nm => exact set_fe h n rfl
theorem nd_fg : ∀ (ws : List Wd) {row row' : List En}, row.map fe = row'.map fe → ndOf row ws = ndOf row' ws
  | [], _, _, _ => rfl
  | x :: ws, row, row', h => by
    show hdOf row x ++ ndOf (st1 row x) ws = hdOf row' x ++ ndOf (st1 row' x) ws
    rw [hd_fg h x, nd_fg ws (st_fg h x)]
/-- a row of words that does not fail: the first does not, nor what is behind it -/
theorem play_next {row : List En} {ops : Ops} {x : Wd} {ws : List Wd} (h : (play row ops (x :: ws)).2.2 = none) : (play row [] [x]).2.2 = none ∧ (play (st1 row x) [] ws).2.2 = none := by
  cases x with
  | copy s d =>
    by_cases e : row.getD s .non = .non
    · rw [play_stop e] at h; cases h
    · rw [play_copy e] at h
      unfold st1
      rw [play_copy e]
      exact ⟨rfl, (play_fg ws rfl).trans h⟩
  | close n => exact ⟨rfl, (play_fg ws rfl).trans h⟩
  | opn n c nm =>
    rw [play_opn] at h
    exact ⟨rfl, (play_fg (row := row.set n (.new 0)) (row' := row.set n (.new ops.length)) (ops := []) (ops' := ops ++ [(c, nm)]) ws (set_fe rfl n rfl)).trans h⟩
theorem st_len {row : List En} {x : Wd} : (st1 row x).length = row.length := by
  unfold st1
  cases x with
  | copy s d =>
    by_cases e : row.getD s .non = .non
    · rw [play_stop e]
    · rw [play_copy e]; exact List.length_set
  | close n => exact List.length_set
  | opn n c nm => exact List.length_set
/-- all old ends below ten -/
def Low (row : List En) : Prop := ∀ e ∈ row, ∀ k, e = .old k → k < 10
theorem low_olds : Low olds := by
  intro e he k hk
  unfold olds at he
  obtain ⟨j, hj, rfl⟩ := List.mem_map.mp he
  cases hk
  exact List.mem_range.mp hj
theorem low_set {row : List En} (h : Low row) (d : Nat) {e : En} (he : ∀ k, e = .old k → k < 10) : Low (row.set d e) := by
  intro f hf k hk
  rcases List.mem_or_eq_of_mem_set hf with q | q
  · exact h f q k hk
  · exact he k (q ▸ hk)
theorem low_get {row : List En} (h : Low row) (s k : Nat) (e : row.getD s .non = .old k) : k < 10 := by
  rw [List.getD_eq_getElem?_getD] at e
  cases q : row[s]? with
  | none => rw [q] at e; cases e
  | some f => rw [q] at e; exact h f (List.mem_of_getElem? q) k e
theorem low_st {row : List En} (h : Low row) (x : Wd) : Low (st1 row x) := by
  unfold st1
  cases x with
  | copy s d =>
    by_cases e : row.getD s .non = .non
    · rw [play_stop e]; exact h
    · rw [play_copy e]; exact low_set h d fun k hk => low_get h s k hk
  | close n => exact low_set h n fun k hk => by cases hk
  | opn n c nm => exact low_set h n fun k hk => by cases hk
theorem nd_lt : ∀ (ws : List Wd) {row : List En}, Low row → ∀ k ∈ ndOf row ws, k < 10
  | [], _, _, k, hk => by cases hk
  | x :: ws, row, h, k, hk => by
    rcases List.mem_append.mp hk with q | q
    · cases x with
      | copy s d =>
        have q' : k ∈ (match row.getD s .non with | .old k => [k] | _ => []) := q
        cases e : row.getD s .non with
        | old j => rw [e] at q'; rw [List.mem_singleton.mp q']; exact low_get h s j e
        | non => rw [e] at q'; cases q'
        | new j => rw [e] at q'; cases q'
      | close n => cases q
      | opn n c nm => cases q
    · exact nd_lt ws (low_st h x) k q
/-- the end n taken away -/
def kl (n : Nat) (e : En) : En := if e = .old n then .non else e
theorem kl_non (n : Nat) : kl n .non = .non := rfl
theorem play_kill (n : Nat) : ∀ (ws : List Wd) {row : List En} {ops : Ops}, (play row ops ws).2.2 = none →
    (n ∈ ndOf row ws → (play (row.map (kl n)) ops ws).2.2 ≠ none) ∧ (n ∉ ndOf row ws → play (row.map (kl n)) ops ws = ((play row ops ws).1.map (kl n), (play row ops ws).2.1, none))
  | [], row, ops, _ => ⟨(fun h => nomatch h), fun _ => rfl⟩
  | .close m :: ws, row, ops, h => by
    have e : (row.map (kl n)).set m .non = (row.set m .non).map (kl n) := by rw [List.map_set]; rfl
    rw [play_close] at h
    rw [play_close, play_close, e]
    exact play_kill n ws h
  | .opn m c nm :: ws, row, ops, h => by
    have e : (row.map (kl n)).set m (.new ops.length) = (row.set m (.new ops.length)).map (kl n) := by rw [List.map_set]; rfl
    rw [play_opn] at h
    rw [play_opn, play_opn, e]
    have r := play_kill n ws h
    rw [show ndOf row (.opn m c nm :: ws) = ndOf (row.set m (.new ops.length)) ws from nd_fg ws (set_fe rfl m rfl)]
    exact r
  | .copy s d :: ws, row, ops, h => by
    by_cases e0 : row.getD s .non = .non
    · rw [play_stop e0] at h; cases h
    rw [play_copy e0] at h
    have g := getD_map (kl n) (kl_non n) row s
    have r := play_kill n ws h
    have hn : ndOf row (.copy s d :: ws) = hdOf row (.copy s d) ++ ndOf (row.set d (row.getD s .non)) ws := by
      show _ ++ ndOf (st1 row (.copy s d)) ws = _
      unfold st1
      rw [play_copy e0]
      rfl
    rw [hn]
    by_cases e1 : row.getD s .non = .old n
    · have g' : (row.map (kl n)).getD s .non = .non := by rw [g, e1]; exact if_pos rfl
      rw [play_stop g']
      refine ⟨fun _ q => (by cases q), fun q => absurd ?_ q⟩
      refine List.mem_append.mpr (.inl ?_)
      show n ∈ (match row.getD s .non with | .old k => [k] | _ => [])
      rw [e1]
      exact List.mem_singleton.mpr rfl
    · have g1 : kl n (row.getD s .non) = row.getD s .non := if_neg e1
      have g' : (row.map (kl n)).getD s .non ≠ .non := by rw [g, g1]; exact e0
      have e : (row.map (kl n)).set d ((row.map (kl n)).getD s .non) = (row.set d (row.getD s .non)).map (kl n) := by rw [g, List.map_set]
      rw [play_copy g', play_copy e0, e]
      have hm : n ∉ hdOf row (.copy s d) := by
        show n ∉ (match row.getD s .non with | .old k => [k] | _ => [])
        cases q : row.getD s .non with
        | old j => exact fun m => e1 (by rw [q, List.mem_singleton.mp m])
        | non => exact List.not_mem_nil
        | new j => exact List.not_mem_nil
      exact ⟨fun m => r.1 ((List.mem_append.mp m).resolve_left hm), fun m => r.2 fun m' => m (List.mem_append.mpr (.inr m'))⟩
/-- what may be told of a row of words -/
def formS (ws : List Wd) : Option (List Nat × Ops × List En) :=
  if (play olds [] ws).2.2 = none then some ((List.range 10).filter (fun n => decide (n ∈ ndOf olds ws)), (play olds [] ws).2.1, (play olds [] ws).1) else none
def nsD (ns : List Nat) : PyData := .tuple ((ns.map fun n : Nat => (n : Int)).map .int)
def formD : Option (List Nat × Ops × List En) → PyData
  | none => .none
  | some (ns, ops, row) => .tuple [nsD ns, .tuple (opAll ops), .tuple (enAll row)]
/-- the ends, sorted: as the law comes to them -/
theorem needs_eq {ys ks : List Int} {L : List Nat} (p : ys.Perm ks) (s : ys.Pairwise (· ≤ ·)) (n : ks.Nodup) (m : ∀ x : Int, x ∈ ks ↔ ∃ k ∈ L, x = (k : Int)) (b : ∀ k ∈ L, k < 10) : ys = ((List.range 10).filter fun n => decide (n ∈ L)).map fun n : Nat => (n : Int) := by
  refine incr_ext (strict_of s (p.nodup_iff.mpr n)) ?_ fun x => ?_
  · rw [List.pairwise_map]
    exact (List.pairwise_lt_range.filter _).imp fun h => by omega
  · rw [p.mem_iff, m, List.mem_map]
    constructor
    · rintro ⟨k, hk, rfl⟩
      exact ⟨k, List.mem_filter.mpr ⟨List.mem_range.mpr (b k hk), decide_eq_true hk⟩, rfl⟩
    · rintro ⟨k, hk, rfl⟩
      exact ⟨k, of_decide_eq_true (List.mem_filter.mp hk).2, rfl⟩
/-! bounds -/
def EnS : En → Prop
  | .non => True
  | .old k => k < 100
  | .new k => k < 101
def OpS (o : Nat × List Nat) : Prop := (o.1 = 62 ∨ o.1 = 60) ∧ nmOk o.2
theorem play_fine : ∀ (ws : List Wd) {row : List En} {ops : Ops}, (∀ x ∈ ws, Wok x) → (∀ e ∈ row, EnS e) → ops.length + ws.length ≤ 100 → (∀ o ∈ ops, OpS o) →
    (∀ e ∈ (play row ops ws).1, EnS e) ∧ (play row ops ws).2.1.length ≤ 100 ∧ (∀ o ∈ (play row ops ws).2.1, OpS o) ∧ (play row ops ws).1.length = row.length
  | [], row, ops, _, h1, h2, h3 => ⟨h1, by have : ops.length + 0 ≤ 100 := h2; exact this, h3, rfl⟩
  | .close n :: ws, row, ops, hw, h1, h2, h3 => by
    rw [play_close]
    have l : ops.length + ws.length ≤ 100 := by rw [List.length_cons] at h2; omega
    have r := play_fine ws (row := row.set n .non) (fun x hx => hw x (List.mem_cons_of_mem _ hx)) (fun e he => (List.mem_or_eq_of_mem_set he).elim (h1 e) fun q => q ▸ trivial) l h3
    rw [List.length_set] at r
    exact r
  | .copy s d :: ws, row, ops, hw, h1, h2, h3 => by
    have l : ops.length + ws.length ≤ 100 := by rw [List.length_cons] at h2; omega
    by_cases e0 : row.getD s .non = .non
    · rw [play_stop e0]
      exact ⟨h1, by show ops.length ≤ 100; omega, h3, rfl⟩
    · rw [play_copy e0]
      have g : EnS (row.getD s .non) := by
        rw [List.getD_eq_getElem?_getD]
        cases q : row[s]? with
        | none => trivial
        | some f => exact h1 f (List.mem_of_getElem? q)
      have r := play_fine ws (row := row.set d (row.getD s .non)) (fun x hx => hw x (List.mem_cons_of_mem _ hx)) (fun e he => (List.mem_or_eq_of_mem_set he).elim (h1 e) fun q => q ▸ g) l h3
      rw [List.length_set] at r
      exact r
  | .opn n c nm :: ws, row, ops, hw, h1, h2, h3 => by
    rw [play_opn]
    have l : (ops ++ [(c, nm)]).length + ws.length ≤ 100 := by rw [List.length_cons] at h2; rw [List.length_append, List.length_singleton]; omega
    have hx := hw _ List.mem_cons_self
    have g : EnS (.new ops.length) := by show ops.length < 101; omega
    have r := play_fine ws (row := row.set n (.new ops.length)) (fun x hx => hw x (List.mem_cons_of_mem _ hx)) (fun e he => (List.mem_or_eq_of_mem_set he).elim (h1 e) fun q => q ▸ g) l (fun o ho => by
      rcases List.mem_append.mp ho with q | q
      · exact h3 o q
      · rw [List.mem_singleton.mp q]
        exact ⟨hx.2.1, hx.2.2⟩)
    rw [List.length_set] at r
    exact r
theorem en_bd {e : En} (h : EnS e) : Bd 1 42 (enD e) := by
  have t : ∀ (s : Str) (k : Nat), tl s = [111, 108, 100] ∨ tl s = [110, 101, 119] → k < 101 → Bd 1 42 (.tuple [.str s, .int (k : Int)]) := by
    intro s k hs hk
    refine (Bd.tup (k := 0) (w := 20) (ds := [.str s, .int (k : Int)]) fun d hd => ?_).mono (Nat.le_refl _) (Nat.le_refl _)
    rcases List.mem_cons.mp hd with rfl | hd
    · have l : s.length = 3 := by rw [← len_tl]; rcases hs with h | h <;> rw [h] <;> rfl
      refine (Bd.str fun c hc => ?_).mono (Nat.le_refl _) (by omega)
      rcases hs with h | h <;> rw [h] at hc <;> simp only [List.mem_cons, List.not_mem_nil, or_false] at hc <;> omega
    · rw [List.mem_singleton.mp hd]
      exact Bd.int (by omega)
  cases e with
  | non => exact Bd.non.mono (by omega) (by omega)
  | old k => exact t _ k (.inl (by decide +kernel)) (by have : k < 100 := h; omega)
  | new k => exact t _ k (.inr (by decide +kernel)) h
theorem op_bd {o : Nat × List Nat} (h : OpS o) : Bd 1 18 (opD o) := by
  obtain ⟨h1, h2, h3, h4⟩ := h
  refine (Bd.tup (k := 0) (w := 8) (ds := [.str (sg o.1), .str (mk o.2)]) fun d hd => ?_).mono (Nat.le_refl _) (Nat.le_refl _)
  rcases List.mem_cons.mp hd with rfl | hd
  · refine (Bd.str fun c hc => ?_).mono (Nat.le_refl _) (show 1 ≤ 8 by omega)
    rw [List.mem_singleton.mp (show c ∈ [o.1] from hc)]
    omega
  · rw [List.mem_singleton.mp hd]
    refine (Bd.str fun c hc => ?_).mono (Nat.le_refl _) (by rw [len_mk]; exact h3)
    rw [tl_mk] at hc
    have := h4 c hc
    omega
theorem form_bd {ws : List Wd} (hw : ∀ x ∈ ws, Wok x) (hl : ws.length ≤ 100) : Bd 3 10000 (formD (formS ws)) := by
  unfold formS
  split
  · obtain ⟨h1, h2, h3, h4⟩ := play_fine ws (row := olds) (ops := []) hw (fun e he => by
      obtain ⟨j, hj, rfl⟩ := List.mem_map.mp (show e ∈ (List.range 10).map En.old from he)
      have := List.mem_range.mp hj
      show j < 100
      omega) (by show 0 + ws.length ≤ 100; omega) (fun _ h => nomatch h)
    have b1 : Bd 2 3000 (nsD ((List.range 10).filter fun n => decide (n ∈ ndOf olds ws))) := by
      refine (Bd.tup (k := 0) (w := 20) fun d hd => ?_).mono (by omega) ?_
      · obtain ⟨i, hi, rfl⟩ := List.mem_map.mp hd
        obtain ⟨n, hn, rfl⟩ := List.mem_map.mp hi
        have := List.mem_range.mp (List.mem_filter.mp hn).1
        exact Bd.int (by omega)
      · rw [List.length_map, List.length_map]
        have := List.length_filter_le (fun n => decide (n ∈ ndOf olds ws)) (List.range 10)
        rw [List.length_range] at this
        omega
    have b2 : Bd 2 3000 (.tuple (opAll (play olds [] ws).2.1)) := by
      refine (Bd.tup (k := 1) (w := 18) fun d hd => ?_).mono (by omega) ?_
      · obtain ⟨o, ho, rfl⟩ := List.mem_map.mp hd
        exact op_bd (h3 o ho)
      · unfold opAll
        rw [List.length_map]
        omega
    have b3 : Bd 2 3000 (.tuple (enAll (play olds [] ws).1)) := by
      refine (Bd.tup (k := 1) (w := 42) fun d hd => ?_).mono (by omega) ?_
      · obtain ⟨o, ho, rfl⟩ := List.mem_map.mp hd
        exact en_bd (h1 o ho)
      · unfold enAll
        rw [List.length_map, h4]
        decide
    refine (Bd.tup (k := 2) (w := 3000) fun d hd => ?_).mono (by omega) (Nat.le_of_ble_eq_true rfl)
    simp only [List.mem_cons, List.not_mem_nil, or_false] at hd
    rcases hd with rfl | rfl | rfl
    · exact b1
    · exact b2
    · exact b3
  · exact Bd.non.mono (by omega) (by omega)
theorem wd_bd {x : Wd} (h : Wok x) : Bd 0 10 (.str (wdS x)) := by
  have hl : (wdL x).length ≤ 10 := by
    cases x with
    | close n => exact Nat.le_of_ble_eq_true rfl
    | copy s d => exact Nat.le_of_ble_eq_true rfl
    | opn n c nm => obtain ⟨_, _, h1, h2, _⟩ := h; show nm.length + 1 + 1 ≤ 10; omega
  refine (Bd.str fun c hc => ?_).mono (Nat.le_refl _) (by rw [show (wdS x).length = (wdL x).length from len_mk _]; exact hl)
  rw [show tl (wdS x) = wdL x from tl_mk _] at hc
  cases x with
  | close n =>
    have h : n < 10 := h
    simp only [wdL, List.mem_cons, List.not_mem_nil, or_false] at hc
    omega
  | copy s d =>
    have h : s < 10 ∧ d < 10 := h
    simp only [wdL, List.mem_cons, List.not_mem_nil, or_false] at hc
    omega
  | opn n k nm =>
    obtain ⟨h0, h1, _, _, h2⟩ := h
    simp only [wdL, List.mem_cons] at hc
    rcases hc with h | h | h
    · omega
    · omega
    · have := h2 c h; omega
theorem ws_bd {ws : List Wd} (hw : ∀ x ∈ ws, Wok x) (hl : ws.length ≤ 200) : Bd 1 2200 (.list (ws.map fun x => .str (wdS x))) := by
  refine (Bd.lst (k := 0) (w := 10) fun d hd => ?_).mono (by omega) ?_
  · obtain ⟨x, hx, rfl⟩ := List.mem_map.mp hd
    exact wd_bd (hw x hx)
  · rw [List.length_map]
    omega
def wokB : Wd → Bool
  | .close n => decide (n < 10)
  | .copy s d => decide (s < 10) && decide (d < 10)
  | .opn n c nm => decide (n < 10) && ((c == 62 || c == 60) && (decide (1 ≤ nm.length) && (decide (nm.length ≤ 8) && nm.all fun c => decide (97 ≤ c ∧ c ≤ 122))))
theorem wok_of {ws : List Wd} (h : ws.all wokB = true) : ∀ x ∈ ws, Wok x := by
  intro x hx
  have h1 := List.all_eq_true.mp h x hx
  cases x with
  | close n => exact (show n < 10 from of_decide_eq_true h1)
  | copy s d =>
    have h2 := Bool.and_eq_true_iff.mp h1
    exact ⟨of_decide_eq_true h2.1, of_decide_eq_true h2.2⟩
  | opn n c nm =>
    obtain ⟨g1, g2⟩ := Bool.and_eq_true_iff.mp h1
    obtain ⟨g3, g4⟩ := Bool.and_eq_true_iff.mp g2
    obtain ⟨g5, g6⟩ := Bool.and_eq_true_iff.mp g4
    obtain ⟨g7, g8⟩ := Bool.and_eq_true_iff.mp g6
    refine ⟨of_decide_eq_true g1, ?_, of_decide_eq_true g5, of_decide_eq_true g7, fun c hc => of_decide_eq_true (List.all_eq_true.mp g8 c hc)⟩
    rcases Bool.or_eq_true_iff.mp g3 with h | h
    · exact .inl (beq_iff_eq.mp h)
    · exact .inr (beq_iff_eq.mp h)

def Φ_needs_of (K : PySem.W.Frag) (v : V) (H : Hp) (Q : VK) : Prop := ∃ (p : Addr) (ws : List Wd), v = .ref p ∧ SqL K H p (wsV ws) ∧ ws.length ≤ 100 ∧ (∀ x ∈ ws, Wok x) ∧ (play olds [] ws).2.2 = none ∧
  ∀ (H' : Hp) (u : V), Same H H' → Im H' u (nsD ((List.range 10).filter fun n => decide (n ∈ ndOf olds ws))) → Q u H'
theorem olds_snoc (i : Nat) : enAll ((List.range (i + 1)).map En.old) = enAll ((List.range i).map En.old) ++ [enD (.old i)] := by
  unfold enAll
  rw [List.range_succ, List.map_append, List.map_append]
  rfl
theorem nd_next {row : List En} {x : Wd} {ws : List Wd} : ndOf row (x :: ws) = hdOf row x ++ ndOf (st1 row x) ws := rfl
theorem ok_needs_of (T : Txt K mg) {f : Addr} {fd : FuncData} (F : Fun K "needs_of" "needs_of" s_needs_of f fd) : Keeps P w K mg base CX0 4 f fd ["words"] (sp1 (Φ_needs_of K)) := by
  have c_parts_of := cal (P := P) (w := w) (base := base) T.d_parts_of fun F => ok_parts_of T F
  have c_row_behind := cal (P := P) (w := w) (base := base) T.d_row_behind fun F => ok_row_behind T F
  refine keeps0_of F sc_needs_of (fun vs H Q E h => ?_) (fun cdv A outer s H vs Q E hr h => ?_)
  · obtain ⟨_, rfl, _⟩ := h
    rfl
  obtain ⟨v_words, rfl, h⟩ := h
  have hu := hr.hu
  refine ⟨_, (pss_cons (ps_par (i := 1) (j := 2) rfl sc_needs_of.nd rfl rfl (by decide) rfl rfl (pa_cons (pe_lc (own := [("number", 7)]) rfl sc_needs_of.nd (pi_range1 (by rfl) T.b_range (pa_cons (pe_gk (by rfl) T.c_NUMBERS) pa_nil)) (blkOk_by (own := [("number", 7)]) (N := ["words", "row", "needs", "word", "parts", "openings", "failing", "number"]) (sc := defScope s_needs_of) (by decide +kernel)) (fun _ _ _ _ _ => pg_name (i := 7) sc_needs_of.nd rfl (by first | exact Or.inl rfl | exact Or.inr rfl)) (fun _ _ _ _ _ => pts_nil) (fun _ _ _ _ _ => (pe_tup (pa_cons pe_str (pa_cons (pv 7) pa_nil))))) (pa_cons pe_dnewK pa_nil)) (by rfl))
      (pss_cons (ps_for PassesOwn.never rfl (pi_any (K := K) (pv 0)) (pg_name (i := 3) sc_needs_of.nd rfl (by first | exact Or.inl rfl | exact Or.inr rfl)) (pss_cons (ps_set (i := 4) sc_needs_of.nd rfl (by first | exact Or.inl rfl | exact Or.inr rfl) (pe_cal c_parts_of (hr.mono (by decide)) (by rfl) pass0 (pa_cons (pv 3) pa_nil)))
      (pss_meet (ps_if (PW.pt (pw_and (pt_cmpR (oEq (K := K) hr.u65) (pe_ix (ixX (K := K)) (pv 4) pe_int (fun _ _ => rfl)) pe_str (nomark _)) (pw_and1 (pt_cmpR (oEq (K := K) hr.u65) (pe_ix (ixX (K := K)) (pe_ix (ixX (K := K)) (pv 1) (pe_ix (ixX (K := K)) (pv 4) pe_int (fun _ _ => rfl)) (fun _ _ => rfl)) pe_int (fun _ _ => rfl)) pe_str (nomark _))))) (pss_one (ps_dput hu (pv 2) (pe_ix (ixX (K := K)) (pe_ix (ixX (K := K)) (pv 1) (pe_ix (ixX (K := K)) (pv 4) pe_int (fun _ _ => rfl)) (fun _ _ => rfl)) pe_int (fun _ _ => rfl)) pe_bl rfl)) pss_nil)
      (pss_one (ps_asg (pe_cal c_row_behind (hr.mono (by decide)) (by rfl) pass0 (pa_cons (pe_lst (pa_cons (pv 3) pa_nil)) (pa_cons (pv 1) pa_nil))) (pg_seqX (K := K) rfl (pgs_cons (pg_name (i := 1) sc_needs_of.nd rfl (by first | exact Or.inl rfl | exact Or.inr rfl)) (pgs_cons (pg_name (i := 5) sc_needs_of.nd rfl (by first | exact Or.inl rfl | exact Or.inr rfl)) (pgs_cons (pg_name (i := 6) sc_needs_of.nd rfl (by first | exact Or.inl rfl | exact Or.inr rfl)) pgs_nil)))))))))
      (pss_one (ps_ret (pe_callTy (callTupX (K := K)) (by rfl) T.b_tuple (by decide +kernel) (pa_cons (pe_callB (show CallR _ _ xSortDI from call_sortedDI rfl) (by rfl) T.b_sorted (by decide +kernel) (pa_cons (pv 2) pa_nil)) pa_nil)))))), ?_⟩
  rw [show start ["words", "row", "needs", "word", "parts", "openings", "failing", "number"] [v_words] = [some v_words, none, none, none, none, none, none, none] from rfl]
  try dsimp only [cxOf, Cx.nox, Cx.wish]
  obtain ⟨p, ws, rfl, hw, hwl, hok, hf, q⟩ := h
  walk_at "rd"
  refine rd_clR (by decide) (by decide) (fun D i H' => Same H H' ∧ ∃ xs, H' D = some (.lst xs) ∧ ImAll H' xs (enAll ((List.range i).map En.old)))
    (fun D hD => ⟨(Same.refl H).new hD, [], upd_same, .nil⟩) ?_ ?_
  · rintro D i H1 hD hi ⟨k1, xs, h1, im⟩
    walk_at "rd"
    intro t ht
    have k2 := (Same.refl H1).new (o := .tup [.str "old", .int (i : Int)]) ht
    have l := im.length
    unfold enAll at l
    rw [List.length_map, List.length_map, List.length_range] at l
    have tp := (Tp.of k2).lst (o := .lst (xs ++ [.ref t])) (k2 _ _ h1)
    refine ⟨xs, k2 _ _ h1, szLt (by omega), (k1.trans k2).put hD, _, upd_same, ?_⟩
    rw [olds_snoc]
    have tD : t ≠ D := fun e => by rw [e, h1] at ht; cases ht
    exact (im.up tp).snoc (.mk2 (by rw [upd_ne tD]; exact upd_same) (.str _) (.int _))
  rintro D H1 hD ⟨k1, xs, h1, im⟩
  walk_at "rd"
  intro n hn
  walk_at "rd"
  have Dn : D ≠ n := ne_of_none h1 hn
  have hn0 : H n = none := Sub.of k1 _ hn
  have k2 := (Same.refl H1).new (o := .dK []) hn
  refine rd_forL ?_
  walk_at "rd"
  refine rd_itL (xs := wsV ws) (((k1.trans k2)).seq hw) (fun i σ H' => Same H H' ∧ ∃ (r : Addr) (row' : List En) (xs : List V) (kvs : List (Key × V)) (ks : List Int) (a b c d e : Option V), row'.length = 10 ∧ r ≠ n ∧ H' r = some (.lst xs) ∧ ImAll H' xs (enAll row') ∧ H' n = some (.dK kvs) ∧ kvs.map (·.1) = ks.map Sum.inl ∧ ks.Nodup ∧ (∀ x : Int, (x ∈ ks ∨ ∃ k ∈ ndOf row' (ws.drop i), x = (k : Int)) ↔ ∃ k ∈ ndOf olds ws, x = (k : Int)) ∧ (play row' [] (ws.drop i)).2.2 = none ∧ σ = [some (.ref p), some (.ref r), some (.ref n), a, b, c, d, e])
    ⟨k1.trans k2, D, olds, xs, [], [], _, _, _, _, _, rfl, Dn, k2 _ _ h1, im.up (Tp.of k2), upd_same, rfl, List.nodup_nil, fun x => by rw [List.drop_zero]; simp, by rw [List.drop_zero]; exact hf, rfl⟩ ?_ ?_ ?_
  · rintro i σ H' _ ⟨k, _⟩
    exact k.seq hw
  · rintro i x σ H2 hi ⟨k3, r, row', xs2, kvs, ks, a, b, c, d, e, hl', rn, h2, im2, hd, hks, hnd, hmem, hf', rfl⟩
    obtain ⟨y, hy, rfl⟩ := wsV_at hi
    have hyok := hok y (List.mem_of_getElem? hy)
    have dy : ws.drop i = y :: ws.drop (i + 1) := by
      obtain ⟨l, e⟩ := List.getElem?_eq_some_iff.mp hy
      rw [List.drop_eq_getElem_cons l, e]
    rw [dy] at hf' hmem
    obtain ⟨f1, f2⟩ := play_next hf'
    rw [nd_next] at hmem
    walk_at "rd"
    refine ⟨y, rfl, hyok, fun H3 u k4 hu3 => ?_⟩
    walk_at "rd"
    have g2 := k4 _ _ h2
    have gd := k4 _ _ hd
    have jm := im2.up (Tp.of k4)
    refine rd_meet (fun σ' H' => Same H H' ∧ ∃ (kvs : List (Key × V)) (ks : List Int), H' r = some (.lst xs2) ∧ ImAll H' xs2 (enAll row') ∧ H' n = some (.dK kvs) ∧ kvs.map (·.1) = ks.map Sum.inl ∧ ks.Nodup ∧ (∀ x : Int, (x ∈ ks ∨ ∃ k ∈ ndOf (st1 row' y) (ws.drop (i + 1)), x = (k : Int)) ↔ ∃ k ∈ ndOf olds ws, x = (k : Int)) ∧
      σ' = [some (.ref p), some (.ref r), some (.ref n), some (.str (wdS y)), some u, c, d, e]) ?_ ?_
    · have skip : hdOf row' y = [] → (Same H H3 ∧ ∃ (kvs : List (Key × V)) (ks : List Int), H3 r = some (.lst xs2) ∧ ImAll H3 xs2 (enAll row') ∧ H3 n = some (.dK kvs) ∧ kvs.map (·.1) = ks.map Sum.inl ∧ ks.Nodup ∧ (∀ x : Int, (x ∈ ks ∨ ∃ k ∈ ndOf (st1 row' y) (ws.drop (i + 1)), x = (k : Int)) ↔ ∃ k ∈ ndOf olds ws, x = (k : Int)) ∧
          [some (V.ref p), some (.ref r), some (.ref n), some (.str (wdS y)), some u, c, d, e] = [some (.ref p), some (.ref r), some (.ref n), some (.str (wdS y)), some u, c, d, e]) := by
        intro h0
        rw [h0] at hmem
        exact ⟨k3.trans k4, kvs, ks, g2, jm, gd, hks, hnd, hmem, rfl⟩
      walk_at "rd"
      cases y with
      | close m =>
        obtain ⟨t, x0, x1, rfl, ht, i0, i1⟩ := hu3.t2
        obtain rfl := i0.s
        refine rd_ixT (SqT.of ht) rfl ?_
        walk_at "rd"
        refine rd_noI (by decide +kernel) ?_
        walk_at "rd"
        exact skip rfl
      | opn m c' nm =>
        obtain ⟨t, x0, x1, x2, x3, rfl, ht, i0, i1, i2, i3⟩ := hu3.t4
        obtain rfl := i0.s
        refine rd_ixT (SqT.of ht) rfl ?_
        walk_at "rd"
        refine rd_noI (by decide +kernel) ?_
        walk_at "rd"
        exact skip rfl
      | copy s m =>
        obtain ⟨t, x0, x1, x2, rfl, ht, i0, i1, i2⟩ := hu3.t3
        obtain rfl := i0.s
        obtain rfl := i1.i
        obtain rfl := i2.i
        have ne : row'.getD s .non ≠ .non := fun e => by rw [play_stop e] at f1; cases f1
        obtain ⟨v, hv, imv, _⟩ := en_at jm hl' hyok.1
        refine rd_ixT (SqT.of ht) rfl ?_
        walk_at "rd"
        refine rd_yesI (by decide +kernel) ?_
        walk_at "rd"
        refine rd_ixT (SqT.of ht) rfl ?_
        refine rd_ixL (SqL.of g2) hv ?_
        walk_at "rd"
        have hh : hdOf row' (.copy s m) = (match row'.getD s .non with | .old k => [k] | _ => []) := rfl
        cases ev : row'.getD s .non with
        | non => exact absurd ev ne
        | new k =>
          rw [ev] at imv hh
          obtain ⟨b, y0, y1, rfl, hb, j0, j1⟩ := imv.t2
          obtain rfl := j0.s
          refine rd_ixT (SqT.of hb) rfl ?_
          walk_at "rd"
          refine rd_noI (by decide +kernel) ?_
          walk_at "rd"
          exact skip hh
        | old k =>
          rw [ev] at imv hh
          obtain ⟨b, y0, y1, rfl, hb, j0, j1⟩ := imv.t2
          obtain rfl := j0.s
          obtain rfl := j1.i
          refine rd_ixT (SqT.of hb) rfl ?_
          walk_at "rd"
          refine rd_yesI (by decide +kernel) ?_
          walk_at "rd"
          refine rd_ixT (SqT.of ht) rfl ?_
          refine rd_ixL (SqL.of g2) hv ?_
          walk_at "rd"
          refine rd_ixT (SqT.of hb) rfl ?_
          have few : ks.length ≤ 10 := few_ints 10 hnd fun x hx => by
            obtain ⟨k, hk, rfl⟩ := (hmem x).mp (.inl hx)
            have := nd_lt ws low_olds k hk
            omega
          refine rd_putI gd (szLt (by rw [keys_len hks]; omega)) ?_
          rw [hh] at hmem
          have tp := (Tp.refl H3).dct (o := .dK (putK kvs (Sum.inl (k : Int)) (.bl true))) gd
          walk_at "rd"
          refine ⟨(k3.trans k4).put hn0, _, putI ks k, by rw [upd_ne rn]; exact g2, jm.up tp, upd_same, keys_put hks, putI_nodup hnd, fun x => ?_, rfl⟩
          rw [← hmem x, putI_mem]
          constructor
          · rintro ((h | h) | ⟨k', h1, h2⟩)
            · exact .inl h
            · exact .inr ⟨k, List.mem_append.mpr (.inl (List.mem_singleton.mpr rfl)), h⟩
            · exact .inr ⟨k', List.mem_append.mpr (.inr h1), h2⟩
          · rintro (h | ⟨k', h1, h2⟩)
            · exact .inl (.inl h)
            · rcases List.mem_append.mp h1 with h1 | h1
              · rw [List.mem_singleton.mp h1] at h2
                exact .inl (.inr h2)
              · exact .inr ⟨k', h1, h2⟩
    rintro _ H4 ⟨k5, kvs', ks', g2', jm', gd', hks', hnd', hmem', rfl⟩
    walk_at "rd"
    intro l hl2
    have k6 := (Same.refl H4).new (o := .lst [.str (wdS y)]) hl2
    walk_at "rd"
    refine ⟨l, r, [y], row', xs2, rfl, rfl, SqL.of upd_same, Nat.le_of_ble_eq_true rfl, (fun x hx => by rw [List.mem_singleton.mp hx]; exact hyok), SqL.of (k6 _ _ g2'), jm'.up (Tp.of k6), hl', ?_⟩
    intro H5 t r2 o2 xs3 ys3 k7 hr2 ho2 ro2 ht2 hr3 jm3 ho3 _
    refine rd_gtup (SqT.of ht2) rfl ?_
    walk_at "rd"
    have gd5 := k7 _ _ (k6 _ _ gd')
    exact ⟨(k5.trans k6).trans k7, r2, st1 row' y, xs3, kvs', ks', _, _, _, _, _, by rw [st_len]; exact hl', (fun e => by rw [← e, hr3] at gd5; cases gd5), hr3, jm3, gd5, hks', hnd', hmem', f2, rfl⟩
  · rintro σ H2 ⟨k3, r, row', xs2, kvs, ks, a, b, c, d, e, hl', rn, h2, im2, hd, hks, hnd, hmem, hf', rfl⟩
    rw [wsV_len, List.drop_length] at hmem
    have few : ks.length ≤ 10 := few_ints 10 hnd fun x hx => by
      obtain ⟨k, hk, rfl⟩ := (hmem x).mp (.inl hx)
      have := nd_lt ws low_olds k hk
      omega
    have mem : ∀ x : Int, x ∈ ks ↔ ∃ k ∈ ndOf olds ws, x = (k : Int) := fun x => by
      rw [← hmem x]
      exact ⟨.inl, fun h => h.elim id fun ⟨_, h, _⟩ => nomatch h⟩
    walk_at "rd"
    refine rd_sortDI hd hks (by omega) fun ys s hp hs hns => ?_
    obtain rfl := needs_eq hp hs hnd mem (nd_lt ws low_olds)
    walk_at "rd"
    refine rd_tupL (SqL.of upd_same) fun t ht => ?_
    walk_at "rd"
    exact q _ _ ((k3.new hns).new ht) (.tup upd_same (im_ints _))
def Φ_form_of (K : PySem.W.Frag) (v : V) (H : Hp) (Q : VK) : Prop := ∃ (p : Addr) (ws : List Wd), v = .ref p ∧ SqL K H p (wsV ws) ∧ ws.length ≤ 100 ∧ (∀ x ∈ ws, Wok x) ∧ ∀ (H' : Hp) (u : V), Same H H' → Im H' u (formD (formS ws)) → Q u H'
theorem olds_len : olds.length = 10 := by decide
theorem ok_form_of (T : Txt K mg) {f : Addr} {fd : FuncData} (F : Fun K "form_of" "form_of" s_form_of f fd) : Keeps P w K mg base CX0 5 f fd ["words"] (sp1 (Φ_form_of K)) := by
  have c_row_behind := cal (P := P) (w := w) (base := base) T.d_row_behind fun F => ok_row_behind T F
  have c_needs_of := cal (P := P) (w := w) (base := base) T.d_needs_of fun F => ok_needs_of T F
  refine keeps0_of F sc_form_of (fun vs H Q E h => ?_) (fun cdv A outer s H vs Q E hr h => ?_)
  · obtain ⟨_, rfl, _⟩ := h
    rfl
  obtain ⟨v_words, rfl, h⟩ := h
  have hu := hr.hu
  refine ⟨_, (pss_cons (ps_asg (pe_cal c_row_behind (hr.mono (by decide)) (by rfl) pass0 (pa_cons (pv 0) (pa_cons (pe_lc (own := [("number", 4)]) rfl sc_form_of.nd (pi_range1 (by rfl) T.b_range (pa_cons (pe_gk (by rfl) T.c_NUMBERS) pa_nil)) (blkOk_by (own := [("number", 4)]) (N := ["words", "row", "openings", "failing", "number"]) (sc := defScope s_form_of) (by decide +kernel)) (fun _ _ _ _ _ => pg_name (i := 4) sc_form_of.nd rfl (by first | exact Or.inl rfl | exact Or.inr rfl)) (fun _ _ _ _ _ => pts_nil) (fun _ _ _ _ _ => (pe_tup (pa_cons pe_str (pa_cons (pv 4) pa_nil))))) pa_nil))) (pg_seqX (K := K) rfl (pgs_cons (pg_name (i := 1) sc_form_of.nd rfl (by first | exact Or.inl rfl | exact Or.inr rfl)) (pgs_cons (pg_name (i := 2) sc_form_of.nd rfl (by first | exact Or.inl rfl | exact Or.inr rfl)) (pgs_cons (pg_name (i := 3) sc_form_of.nd rfl (by first | exact Or.inl rfl | exact Or.inr rfl)) pgs_nil)))))
      (pss_cons (ps_if (pt_cmpR oIsNot (pv 3) pe_non (nomark _)) (pss_one (ps_ret pe_non)) pss_nil)
      (pss_one (ps_ret (pe_tup (pa_cons (pe_cal c_needs_of (hr.mono (by decide)) (by rfl) pass0 (pa_cons (pv 0) pa_nil)) (pa_cons (pe_callTy (callTupX (K := K)) (by rfl) T.b_tuple (by decide +kernel) (pa_cons (pv 2) pa_nil)) (pa_cons (pe_callTy (callTupX (K := K)) (by rfl) T.b_tuple (by decide +kernel) (pa_cons (pv 1) pa_nil)) pa_nil)))))))), ?_⟩
  rw [show start ["words", "row", "openings", "failing", "number"] [v_words] = [some v_words, none, none, none, none] from rfl]
  try dsimp only [cxOf, Cx.nox, Cx.wish]
  obtain ⟨p, ws, rfl, hw, hwl, hok, q⟩ := h
  walk_at "rd"
  refine rd_clR (by decide) (by decide) (fun D i H' => Same H H' ∧ ∃ xs, H' D = some (.lst xs) ∧ ImAll H' xs (enAll ((List.range i).map En.old)))
    (fun D hD => ⟨(Same.refl H).new hD, [], upd_same, .nil⟩) ?_ ?_
  · rintro D i H1 hD hi ⟨k1, xs, h1, im⟩
    walk_at "rd"
    intro t ht
    have k2 := (Same.refl H1).new (o := .tup [.str "old", .int (i : Int)]) ht
    have l := im.length
    unfold enAll at l
    rw [List.length_map, List.length_map, List.length_range] at l
    have tp := (Tp.of k2).lst (o := .lst (xs ++ [.ref t])) (k2 _ _ h1)
    refine ⟨xs, k2 _ _ h1, szLt (by omega), (k1.trans k2).put hD, _, upd_same, ?_⟩
    rw [olds_snoc]
    have tD : t ≠ D := fun e => by rw [e, h1] at ht; cases ht
    exact (im.up tp).snoc (.mk2 (by rw [upd_ne tD]; exact upd_same) (.str _) (.int _))
  rintro D H1 hD ⟨k1, xs, h1, im⟩
  walk_at "rd"
  refine ⟨p, D, ws, olds, xs, rfl, rfl, k1.seq hw, hwl, hok, SqL.of h1, im, olds_len, ?_⟩
  intro H2 t r o xs2 ys2 k2 hr2 ho2 ro ht hr3 im2 ho3 im3
  refine rd_gtup (SqT.of ht) rfl ?_
  walk_at "rd"
  cases ef : (play olds [] ws).2.2 with
  | some k =>
    have e : formS ws = none := if_neg (by rw [ef]; exact fun h => nomatch h)
    rw [e] at q
    refine rd_yesI rfl ?_
    walk_at "rd"
    exact q H2 .non (k1.trans k2) .non
  | none =>
    have e : formS ws = some ((List.range 10).filter (fun n => decide (n ∈ ndOf olds ws)), (play olds [] ws).2.1, (play olds [] ws).1) := if_pos ef
    rw [e] at q
    refine rd_noI rfl ?_
    walk_at "rd"
    refine ⟨p, ws, rfl, (k1.trans k2).seq hw, hwl, hok, ef, fun H3 u k3 iu => ?_⟩
    walk_at "rd"
    refine rd_tupL (SqL.of (k3 _ _ ho3)) fun a ha => ?_
    walk_at "rd"
    have k4 := (Same.refl H3).new (o := .tup ys2) ha
    refine rd_tupL (SqL.of (k4 _ _ (k3 _ _ hr3))) fun b hb => ?_
    walk_at "rd"
    intro c hc
    have k5 := (Same.refl (upd H3 a (.tup ys2))).new (o := .tup xs2) hb
    have k6 := (Same.refl (upd (upd H3 a (.tup ys2)) b (.tup xs2))).new (o := .tup [u, .ref a, .ref b]) hc
    have k46 := (k4.trans k5).trans k6
    refine q _ _ ((k1.trans k2).trans (k3.trans k46)) (.mk3 upd_same (iu.up (Tp.of k46)) ?_ ?_)
    · exact .tup (k6 _ _ (k5 _ _ upd_same)) (im3.up (Tp.of (k3.trans k46)))
    · exact .tup (k6 _ _ upd_same) (im2.up (Tp.of (k3.trans k46)))

def Φ_normal_form (K : PySem.W.Frag) (v : V) (H : Hp) (Q : VK) : Prop := ∃ (p : Addr) (ws : List Wd), v = .ref p ∧ H p = some (.lst (wsV ws)) ∧ ws.length ≤ 40 ∧ (∀ x ∈ ws, Wok x) ∧ ∀ (H' : Hp) (u : V), Same H H' → Im H' u (formD (formS ws)) → Q u H'
theorem ok_normal_form (T : Txt K mg) {f : Addr} {fd : FuncData} (F : Fun K "normal_form" "normal_form" s_normal_form f fd) : Keeps P w K mg base CX0 6 f fd ["words"] (sp1 (Φ_normal_form K)) := by
  have c_check_words := cal (P := P) (w := w) (base := base) T.d_check_words fun F => ok_check_words T F
  have c_form_of := cal (P := P) (w := w) (base := base) T.d_form_of fun F => ok_form_of T F
  refine keeps0_of F sc_normal_form (fun vs H Q E h => ?_) (fun cdv A outer s H vs Q E hr h => ?_)
  · obtain ⟨_, rfl, _⟩ := h
    rfl
  obtain ⟨v_words, rfl, h⟩ := h
  have hu := hr.hu
  refine ⟨_, (pss_cons (ps_expr (pe_cal c_check_words (hr.mono (by decide)) (by rfl) pass0 (pa_cons (pv 0) pa_nil)))
      (pss_one (ps_ret (pe_cal c_form_of (hr.mono (by decide)) (by rfl) pass0 (pa_cons (pv 0) pa_nil))))), ?_⟩
  rw [show start ["words"] [v_words] = [some v_words] from rfl]
  try dsimp only [cxOf, Cx.nox, Cx.wish]
  obtain ⟨p, ws, rfl, hw, hwl, hok, q⟩ := h
  walk_at "rd"
  refine ⟨p, ws, rfl, hw, hwl, hok, fun H1 k1 => ?_⟩
  walk_at "rd"
  exact ⟨p, ws, rfl, SqL.of (k1 _ _ hw), by omega, hok, fun H2 u k2 iu => q H2 u (k1.trans k2) iu⟩
def Φ_law_source (K : PySem.W.Frag) (vc vk : V) (H : Hp) (Q : VK) : Prop := ∃ (c k : Int), vc = .int c ∧ vk = .int k ∧ 0 ≤ k ∧ k < 64 ∧ ∀ (d : Addr) (H' : Hp), H d = none → Dk d 0 H' → Same H H' → Q (.ref d) H'
theorem ok_law_source (T : Txt K mg) {f : Addr} {fd : FuncData} (F : Fun K "_law_source" "_law_source" s_law_source f fd) : Keeps P w K mg base CX0 1 f fd ["cell", "k"] (sp2 (Φ_law_source K)) := by
  refine keeps0_of F sc_law_source (fun vs H Q E h => ?_) (fun cdv A outer s H vs Q E hr h => ?_)
  · obtain ⟨_, _, rfl, _⟩ := h
    rfl
  obtain ⟨v_cell, v_k, rfl, h⟩ := h
  have hu := hr.hu
  refine ⟨_, (pss_one (ps_ret (pe_lst (pa_cons (pe_callB (call_maxX rfl) (by rfl) T.b_max (by decide +kernel) (pa_cons pe_int (pa_cons (pe_op oSub (pv 0) (pe_op oPow pe_int pe_int)) pa_nil))) (pa_cons (pe_op (oAdd (K := K)) (pe_op (oMul (K := K)) (pe_op oMod (pe_callTy call_intX (by rfl) T.b_int (by decide +kernel) (pa_cons (pv 0) pa_nil)) (pe_op (oAdd (K := K)) (pe_op oPow pe_int pe_int) pe_int)) pe_int) (pv 1)) (pa_cons pe_int pa_nil)))))), ?_⟩
  rw [show start ["cell", "k"] [v_cell, v_k] = [some v_cell, some v_k] from rfl]
  try dsimp only [cxOf, Cx.nox, Cx.wish]
  obtain ⟨c, k, rfl, rfl, h0, h1, q⟩ := h
  walk_at "rd"
  refine rd_powI ⟨by decide, by decide⟩ ?_
  walk_at "rd"
  refine rd_powI ⟨by decide, by decide⟩ ?_
  walk_at "rd"
  refine rd_modL (by decide) fun t t0 t1 => ?_
  walk_at "rd"
  refine rd_mulI (IntMulOk.of_right (by decide)) ?_
  walk_at "rd"
  intro d hd
  have t2 : t < 10 ^ 36 := Int.lt_trans t1 (by decide)
  exact q d _ hd ⟨_, _, 0, upd_same, by omega, by omega, by omega, by omega, by omega⟩ ((Same.refl H).new hd)
theorem ok_law_draw (T : Txt K mg) {f : Addr} {fd : FuncData} (F : Fun K "_law_draw" "_law_draw" s_law_draw f fd) : Keeps P w K mg base CX0 1 f fd ["source", "span"] (sp2 (Φ_law_draw K)) := by
  refine keeps0_of F sc_law_draw (fun vs H Q E h => ?_) (fun cdv A outer s H vs Q E hr h => ?_)
  · obtain ⟨_, _, rfl, _⟩ := h
    rfl
  obtain ⟨v_source, v_span, rfl, h⟩ := h
  have hu := hr.hu
  refine ⟨_, (pss_cons (ps_if (pt_cmpR oGt (pe_ix (ixX (K := K)) (pv 0) pe_int (fun _ _ => rfl)) pe_int (nomark _)) (pss_cons (ps_set (i := 2) sc_law_draw.nd rfl (by first | exact Or.inl rfl | exact Or.inr rfl) (pe_op oMod (pe_callTy call_intX (by rfl) T.b_int (by decide +kernel) (pa_cons (pe_ix (ixX (K := K)) (pv 0) pe_int (fun _ _ => rfl)) pa_nil)) (pv 1)))
      (pss_cons (ps_asg (pe_op oDiv (pe_ix (ixX (K := K)) (pv 0) pe_int (fun _ _ => rfl)) (pv 1)) (pg_sub (pv 0) pe_int set_list))
      (pss_one (ps_ret (pv 2))))) pss_nil)
      (pss_cons (ps_asg (pe_op (oAdd (K := K)) (pe_ix (ixX (K := K)) (pv 0) pe_int (fun _ _ => rfl)) pe_int) (pg_sub (pv 0) pe_int set_list))
      (pss_cons (ps_set (i := 3) sc_law_draw.nd rfl (by first | exact Or.inl rfl | exact Or.inr rfl) (pe_op oMod (pe_callTy call_intX (by rfl) T.b_int (by decide +kernel) (pa_cons (pe_op oPow (pe_op (oAdd (K := K)) (pe_ix (ixX (K := K)) (pv 0) pe_int (fun _ _ => rfl)) (pe_op (oMul (K := K)) pe_int (pe_ix (ixX (K := K)) (pv 0) pe_int (fun _ _ => rfl)))) pe_int) pa_nil)) (pe_op (oAdd (K := K)) (pe_op oPow pe_int pe_int) pe_int)))
      (pss_cons (ps_set (i := 3) sc_law_draw.nd rfl (by first | exact Or.inl rfl | exact Or.inr rfl) (pe_op oMod (pe_callTy call_intX (by rfl) T.b_int (by decide +kernel) (pa_cons (pe_op oPow (pe_op (oAdd (K := K)) (pv 3) (pe_op (oMul (K := K)) pe_int (pe_ix (ixX (K := K)) (pv 0) pe_int (fun _ _ => rfl)))) pe_int) pa_nil)) (pe_op (oAdd (K := K)) (pe_op oPow pe_int pe_int) pe_int)))
      (pss_one (ps_ret (pe_op oMod (pe_callTy call_intX (by rfl) T.b_int (by decide +kernel) (pa_cons (pe_op oDiv (pv 3) pe_int) pa_nil)) (pv 1)))))))), ?_⟩
  rw [show start ["source", "span", "digit", "mixed"] [v_source, v_span] = [some v_source, some v_span, none, none] from rfl]
  try dsimp only [cxOf, Cx.nox, Cx.wish]
  obtain ⟨d, n, m, rfl, rfl, hn0, hn1, ⟨x, y, c, hd, hx, hy0, hy1, hc0, hc1⟩, hm, q⟩ := h
  walk_at "rd"
  refine rd_ite (fun hp => ?_) (fun hp => ?_)
  · walk_at "rd"
    refine rd_modI hn0 ?_
    walk_at "rd"
    refine rd_divI (divOk hn0 hn1) ?_
    walk_at "rd"
    refine q _ _ (Int.emod_nonneg _ (by omega)) (Int.emod_lt_of_pos _ hn0) ⟨x / n, y, c, upd_same, Int.ediv_nonneg hx (by omega), hy0, hy1, hc0, by omega⟩ fun a o ne e => ?_
    rw [upd_ne ne]
    exact e
  · walk_at "rd"
    refine rd_mulI (IntMulOk.of_left (by decide)) ?_
    walk_at "rd"
    have b0 : y + 950993 * (c + 1) < 2 ^ 240 := by
      have : m < 1000000000 := hm
      omega
    refine rd_powI ⟨by decide, ?_⟩ ?_
    · have := bits_lt (n := 240) (by omega) b0 (by decide)
      omega
    walk_at "rd"
    refine rd_powI ⟨by decide, by decide⟩ ?_
    walk_at "rd"
    refine rd_modL (by decide) fun z hz0 hz1 => ?_
    walk_at "rd"
    have hz2 : z < 2 ^ 200 := Int.lt_trans hz1 (by decide)
    refine rd_mulI (IntMulOk.of_left (by decide)) ?_
    walk_at "rd"
    have b1 : z + 107 * (c + 1) < 2 ^ 240 := by
      have : m < 1000000000 := hm
      omega
    refine rd_powI ⟨by decide, ?_⟩ ?_
    · have := bits_lt (n := 240) (by omega) b1 (by decide)
      omega
    walk_at "rd"
    refine rd_powI ⟨by decide, by decide⟩ ?_
    walk_at "rd"
    refine rd_modL (by decide) fun z2 _ _ => ?_
    walk_at "rd"
    refine rd_divI (divOk (by decide) (by decide)) ?_
    walk_at "rd"
    refine rd_modL hn0 fun z3 h30 h31 => ?_
    refine q _ _ h30 h31 ⟨x, y, c + 1, upd_same, hx, hy0, hy1, by omega, by omega⟩ fun a o ne e => ?_
    rw [upd_ne ne]
    exact e
/-- a list of texts, whichever is taken -/
theorem pickP {K : PySem.W.Frag} {p : Addr} {xs : List V} {v : Int} {H : Hp} {Q : VK} (R : Str → Prop) (h : SqL K H p xs) (h0 : 0 ≤ v) (h1 : v < xs.length) (hR : ∀ x ∈ xs, ∃ z, x = .str z ∧ R z) (q : ∀ z, R z → Q (.str z) H) : xIx K (.ref p) (.int v) H Q := by
  refine pick h h0 h1 fun x hx => ?_
  obtain ⟨z, rfl, hz⟩ := hR x hx
  exact q z hz
def Wrd (z : Str) : Prop := ∃ x : Wd, z = wdS x ∧ Wok x
def Φ_law_word_here (K : PySem.W.Frag) (vd vs : V) (H : Hp) (Q : VK) : Prop := ∃ (d : Addr) (n : Int) (m : Nat), vd = .ref d ∧ vs = .int n ∧ 1 ≤ n ∧ n ≤ 10 ∧ Dk d m H ∧ m + 10 ≤ LIM ∧
  ∀ (x : Wd) (H' : Hp), Wok x → Dk d (m + 10) H' → Kp d H H' → Q (.str (wdS x)) H'
theorem letters_ok (b n : Nat) (hb : b < 26) (hn : n < 8) : nmOk (((tl "abcdefghijklmnopqrstuvwxyz").drop b).take (1 + n)) := by
  have e : tl "abcdefghijklmnopqrstuvwxyz" = (List.range 26).map (97 + ·) := by decide +kernel
  have l : (tl "abcdefghijklmnopqrstuvwxyz").length = 26 := by decide +kernel
  refine ⟨?_, ?_, fun c hc => ?_⟩
  · rw [List.length_take, List.length_drop, l]; omega
  · rw [List.length_take]; omega
  · have h := List.mem_of_mem_drop (List.mem_of_mem_take hc)
    rw [e] at h
    obtain ⟨k, hk, rfl⟩ := List.mem_map.mp h
    have := List.mem_range.mp hk
    omega
theorem ok_law_word_here (T : Txt K mg) {f : Addr} {fd : FuncData} (F : Fun K "_law_word_here" "_law_word_here" s_law_word_here f fd) : Keeps P w K mg base CX0 2 f fd ["source", "size"] (sp2 (Φ_law_word_here K)) := by
  have c_law_draw := cal (P := P) (w := w) (base := base) T.d_law_draw fun F => ok_law_draw T F
  refine keeps0_of F sc_law_word_here (fun vs H Q E h => ?_) (fun cdv A outer s H vs Q E hr h => ?_)
  · obtain ⟨_, _, rfl, _⟩ := h
    rfl
  obtain ⟨v_source, v_size, rfl, h⟩ := h
  have hu := hr.hu
  refine ⟨_, (pss_cons (ps_par (i := 2) (j := 3) rfl sc_law_word_here.nd rfl rfl (by decide) rfl rfl (pa_cons (pe_callTy callStrX (by rfl) T.b_str (by decide +kernel) (pa_cons (pe_cal c_law_draw (hr.mono (by decide)) (by rfl) pass0 (pa_cons (pv 0) (pa_cons (pv 1) pa_nil))) pa_nil)) (pa_cons (pe_callTy callStrX (by rfl) T.b_str (by decide +kernel) (pa_cons (pe_cal c_law_draw (hr.mono (by decide)) (by rfl) pass0 (pa_cons (pv 0) (pa_cons (pv 1) pa_nil))) pa_nil)) pa_nil)) (by rfl))
      (pss_cons (ps_set (i := 4) sc_law_word_here.nd rfl (by first | exact Or.inl rfl | exact Or.inr rfl) (pe_cal c_law_draw (hr.mono (by decide)) (by rfl) pass0 (pa_cons (pv 0) (pa_cons pe_int pa_nil))))
      (pss_cons (ps_set (i := 5) sc_law_word_here.nd rfl (by first | exact Or.inl rfl | exact Or.inr rfl) (pe_slice (sX (K := K)) pe_str (po_some (pv 4)) (po_some (pe_op (oAdd (K := K)) (pe_op (oAdd (K := K)) (pv 4) pe_int) (pe_cal c_law_draw (hr.mono (by decide)) (by rfl) pass0 (pa_cons (pv 0) (pa_cons pe_int pa_nil)))))))
      (pss_cons (ps_set (i := 6) sc_law_word_here.nd rfl (by first | exact Or.inl rfl | exact Or.inr rfl) (pe_ix (ixX (K := K)) (pe_lst (pa_cons pe_str (pa_cons pe_str (pa_cons pe_str (pa_cons (pv 5) pa_nil))))) (pe_cal c_law_draw (hr.mono (by decide)) (by rfl) pass0 (pa_cons (pv 0) (pa_cons pe_int pa_nil))) (fun _ _ => rfl)))
      (pss_cons (ps_set (i := 7) sc_law_word_here.nd rfl (by first | exact Or.inl rfl | exact Or.inr rfl) (pe_op (oAdd (K := K)) (pe_op (oMul (K := K)) (pe_lst (pa_cons (pe_op (oAdd (K := K)) (pe_op (oAdd (K := K)) (pv 2) pe_str) (pv 3)) pa_nil)) pe_int) (pe_lst (pa_cons (pe_op (oAdd (K := K)) (pv 2) pe_str) (pa_cons (pe_op (oAdd (K := K)) (pe_op (oAdd (K := K)) (pv 2) pe_str) (pv 6)) (pa_cons (pe_op (oAdd (K := K)) (pe_op (oAdd (K := K)) (pv 2) pe_str) (pv 6)) pa_nil))))))
      (pss_one (ps_ret (pe_ix (ixX (K := K)) (pv 7) (pe_cal c_law_draw (hr.mono (by decide)) (by rfl) pass0 (pa_cons (pv 0) (pa_cons pe_int pa_nil))) (fun _ _ => rfl))))))))), ?_⟩
  rw [show start ["source", "size", "one", "two", "begin", "drawn", "name_here", "some"] [v_source, v_size] = [some v_source, some v_size, none, none, none, none, none, none] from rfl]
  try dsimp only [cxOf, Cx.nox, Cx.wish]
  obtain ⟨d, n, m, rfl, rfl, hn0, hn1, hd, hm, q⟩ := h
  walk_at "rd"
  refine use_draw hd (by omega) (by omega) (by omega) fun a H1 a0 a1 d1 k1 => ?_
  obtain ⟨a, rfl⟩ : ∃ k : Nat, a = (k : Int) := ⟨a.toNat, by omega⟩
  walk_at "rd"
  refine rd_strD (n := a) (by omega) ?_
  walk_at "rd"
  refine use_draw d1 (by omega) (by omega) (by omega) fun b H2 b0 b1 d2 k2 => ?_
  obtain ⟨b, rfl⟩ : ∃ k : Nat, b = (k : Int) := ⟨b.toNat, by omega⟩
  walk_at "rd"
  refine rd_strD (n := b) (by omega) ?_
  walk_at "rd"
  refine use_draw d2 (by omega) (by omega) (by omega) fun e H3 e0 e1 d3 k3 => ?_
  obtain ⟨e, rfl⟩ : ∃ k : Nat, e = (k : Int) := ⟨e.toNat, by omega⟩
  walk_at "rd"
  refine use_draw d3 (by omega) (by omega) (by omega) fun g H4 g0 g1 d4 k4 => ?_
  obtain ⟨g, rfl⟩ : ∃ k : Nat, g = (k : Int) := ⟨g.toNat, by omega⟩
  walk_at "rd"
  rw [show (e : Int) + 1 + (g : Int) = ((e + 1 + g : Nat) : Int) by omega]
  have hdr : nmOk (tl (cutS "abcdefghijklmnopqrstuvwxyz" (some (e : Int)) (some ((e + 1 + g : Nat) : Int)))) := by
    rw [tl_mid _ _ _ (by omega), show e + 1 + g - e = 1 + g by omega]
    exact letters_ok e g (by omega) (by omega)
  generalize cutS "abcdefghijklmnopqrstuvwxyz" (some (e : Int)) (some ((e + 1 + g : Nat) : Int)) = dr at hdr
  walk_at "rd"
  intro p hp
  walk_at "rd"
  refine use_draw (d4.new hp) (by omega) (by omega) (by omega) fun u H5 u0 u1 d5 k5 => ?_
  refine pickP (fun z => nmOk (tl z)) (SqL.of (k5.at (d4.ne hp))) u0 u1 ?_ fun nm hnm => ?_
  · intro x hx
    simp only [List.mem_cons, List.not_mem_nil, or_false] at hx
    have t1 : tl ("f" : Str) = [102] := by decide +kernel
    have t2 : tl ("g" : Str) = [103] := by decide +kernel
    have t3 : tl ("abcdefgh" : Str) = [97, 98, 99, 100, 101, 102, 103, 104] := by decide +kernel
    rcases hx with rfl | rfl | rfl | rfl
    · refine ⟨_, rfl, ?_⟩
      show nmOk (tl ("f" : Str))
      rw [t1]
      exact ⟨by decide, by decide, by decide⟩
    · refine ⟨_, rfl, ?_⟩
      show nmOk (tl ("g" : Str))
      rw [t2]
      exact ⟨by decide, by decide, by decide⟩
    · refine ⟨_, rfl, ?_⟩
      show nmOk (tl ("abcdefgh" : Str))
      rw [t3]
      exact ⟨by decide, by decide, by decide⟩
    · exact ⟨dr, rfl, hdr⟩
  have ha : a < 10 := by omega
  have hb : b < 10 := by omega
  have ln : nm.length ≤ 8 := by rw [← len_tl]; exact hnm.2.1
  have la : (sg (48 + a)).length = 1 := rfl
  have lb : (sg (48 + b)).length = 1 := rfl
  have l2 : (">&" : Str).length = 2 := by decide +kernel
  have l3 : (">&-" : Str).length = 3 := by decide +kernel
  have l4 : (">" : Str).length = 1 := by decide +kernel
  have l5 : ("<" : Str).length = 1 := by decide +kernel
  have w1 : Wrd (sg (48 + a) ++ ">&" ++ sg (48 + b)) := ⟨.copy b a, str_ext (by rw [tl_app, tl_app, show tl (">&" : Str) = [62, 38] by decide +kernel]; exact (tl_mk _).symm), hb, ha⟩
  have w2 : Wrd (sg (48 + a) ++ ">&-") := ⟨.close a, str_ext (by rw [tl_app, show tl (">&-" : Str) = [62, 38, 45] by decide +kernel]; exact (tl_mk _).symm), ha⟩
  have w3 : Wrd (sg (48 + a) ++ ">" ++ nm) := ⟨.opn a 62 (tl nm), str_ext (by rw [tl_app, tl_app, show tl (">" : Str) = [62] by decide +kernel]; exact (tl_mk _).symm), ha, .inl rfl, hnm⟩
  have w4 : Wrd (sg (48 + a) ++ "<" ++ nm) := ⟨.opn a 60 (tl nm), str_ext (by rw [tl_app, tl_app, show tl ("<" : Str) = [60] by decide +kernel]; exact (tl_mk _).symm), ha, .inr rfl, hnm⟩
  walk_at "rd"
  intro p1 hp1
  walk_at "rd"
  refine rd_rep upd_same (by decide) (by decide) (szOk (Nat.le_of_ble_eq_true rfl)) fun p2 hp2 => ?_
  walk_at "rd"
  intro p3 hp3
  have p23 : p2 ≠ p3 := fun e => by rw [← e, upd_same] at hp3; cases hp3
  refine rd_cat (by rw [upd_ne p23]; exact upd_same) upd_same (szOk (Nat.le_of_ble_eq_true rfl)) fun p4 hp4 => ?_
  walk_at "rd"
  have n6 : d ≠ p4 := Dk.ne (by exact ((d5.new hp1).new hp2).new hp3) hp4
  refine use_draw ((((d5.new hp1).new hp2).new hp3).new hp4) (by omega) (by omega) (by omega) fun v H6 v0 v1 d7 k6 => ?_
  refine pickP Wrd (SqL.of (k6.at n6)) v0 v1 ?_ fun z hz => ?_
  · intro x hx
    rcases List.mem_append.mp hx with hx | hx
    · have hx : x ∈ [V.str (sg (48 + a) ++ ">&" ++ sg (48 + b)), V.str (sg (48 + a) ++ ">&" ++ sg (48 + b)), V.str (sg (48 + a) ++ ">&" ++ sg (48 + b))] := hx
      simp only [List.mem_cons, List.not_mem_nil, or_false, or_self] at hx
      exact ⟨_, hx, w1⟩
    · simp only [List.mem_cons, List.not_mem_nil, or_false] at hx
      rcases hx with rfl | rfl | rfl
      · exact ⟨_, rfl, w2⟩
      · exact ⟨_, rfl, w3⟩
      · exact ⟨_, rfl, w4⟩
  · obtain ⟨x, rfl, hx⟩ := hz
    refine q x H6 hx (d7.mono (by omega)) ?_
    exact ((((((((((k1.trans k2).trans k3).trans k4).new hp).trans k5).new hp1).new hp2).new hp3).new hp4)).trans k6
def Φ_law_some_words (K : PySem.W.Frag) (vd vs : V) (H : Hp) (Q : VK) : Prop := ∃ (d : Addr) (n m : Nat), vd = .ref d ∧ vs = .int n ∧ n ≤ 40 ∧ Dk d m H ∧ m + 500 ≤ LIM ∧
  ∀ (p : Addr) (ws : List Wd) (H' : Hp), H p = none → H' p = some (.lst (wsV ws)) → ws.length ≤ n → (∀ x ∈ ws, Wok x) → Dk d (m + 500) H' → Kp d H H' → Q (.ref p) H'
theorem wsV_snoc (ws : List Wd) (x : Wd) : wsV (ws ++ [x]) = wsV ws ++ [.str (wdS x)] := by
  unfold wsV
  rw [List.map_append]
  rfl
theorem ok_law_some_words (T : Txt K mg) {f : Addr} {fd : FuncData} (F : Fun K "_law_some_words" "_law_some_words" s_law_some_words f fd) : Keeps P w K mg base CX0 3 f fd ["source", "most"] (sp2 (Φ_law_some_words K)) := by
  have c_law_draw := cal (P := P) (w := w) (base := base) T.d_law_draw fun F => ok_law_draw T F
  have c_law_word_here := cal (P := P) (w := w) (base := base) T.d_law_word_here fun F => ok_law_word_here T F
  refine keeps0_of F sc_law_some_words (fun vs H Q E h => ?_) (fun cdv A outer s H vs Q E hr h => ?_)
  · obtain ⟨_, _, rfl, _⟩ := h
    rfl
  obtain ⟨v_source, v_most, rfl, h⟩ := h
  have hu := hr.hu
  refine ⟨_, (pss_cons (ps_set (i := 2) sc_law_some_words.nd rfl (by first | exact Or.inl rfl | exact Or.inr rfl) (pe_ix (ixX (K := K)) (pe_lst (pa_cons pe_int (pa_cons pe_int (pa_cons pe_int pa_nil)))) (pe_cal c_law_draw (hr.mono (by decide)) (by rfl) pass0 (pa_cons (pv 0) (pa_cons pe_int pa_nil))) (fun _ _ => rfl)))
      (pss_one (ps_ret (pe_lc (own := [("lap", 3)]) rfl sc_law_some_words.nd (pi_range1 (by rfl) T.b_range (pa_cons (pe_ix (ixX (K := K)) (pe_lst (pa_cons (pe_cal c_law_draw (hr.mono (by decide)) (by rfl) pass0 (pa_cons (pv 0) (pa_cons (pe_op (oAdd (K := K)) (pv 1) pe_int) pa_nil))) (pa_cons (pv 1) pa_nil))) (pe_cal c_law_draw (hr.mono (by decide)) (by rfl) pass0 (pa_cons (pv 0) (pa_cons pe_int pa_nil))) (fun _ _ => rfl)) pa_nil)) (blkOk_by (own := [("lap", 3)]) (N := ["source", "most", "size", "lap"]) (sc := defScope s_law_some_words) (by decide +kernel)) (fun _ _ _ _ _ => pg_name (i := 3) sc_law_some_words.nd rfl (by first | exact Or.inl rfl | exact Or.inr rfl)) (fun _ _ _ _ _ => pts_nil) (fun _ _ _ _ _ => (pe_cal c_law_word_here (hr.mono (by decide)) (by rfl) pass0 (pa_cons (pv 0) (pa_cons (pv 2) pa_nil)))))))), ?_⟩
  rw [show start ["source", "most", "size", "lap"] [v_source, v_most] = [some v_source, some v_most, none, none] from rfl]
  try dsimp only [cxOf, Cx.nox, Cx.wish]
  obtain ⟨d, n, m, rfl, rfl, hn, hd, hm, q⟩ := h
  walk_at "rd"
  intro p hp
  walk_at "rd"
  refine use_draw (hd.new hp) (by omega) (by omega) (by omega) fun v H1 v0 v1 d1 k1 => ?_
  refine pick (SqL.of (k1.at (hd.ne hp))) v0 v1 fun x hx => ?_
  obtain ⟨z, rfl, hz⟩ : ∃ z : Int, x = .int z ∧ 1 ≤ z ∧ z ≤ 10 := by
    simp only [List.mem_cons, List.not_mem_nil, or_false] at hx
    rcases hx with rfl | rfl | rfl <;> exact ⟨_, rfl, by omega, by omega⟩
  walk_at "rd"
  refine use_draw d1 (by omega) (by omega) (by omega) fun a H2 a0 a1 d2 k2 => ?_
  walk_at "rd"
  intro p2 hp2
  walk_at "rd"
  refine use_draw (d2.new hp2) (by omega) (by omega) (by omega) fun b H3 b0 b1 d3 k3 => ?_
  refine pick (SqL.of (k3.at (d2.ne hp2))) b0 b1 fun y hy => ?_
  obtain ⟨j, rfl, hj0, hj1⟩ : ∃ j : Int, y = .int j ∧ 0 ≤ j ∧ j ≤ n := by
    simp only [List.mem_cons, List.not_mem_nil, or_false] at hy
    rcases hy with rfl | rfl <;> exact ⟨_, rfl, by omega, by omega⟩
  walk_at "rd"
  have kk := ((((Kp.refl d H).new (o := .lst [.int 3, .int 5, .int 10]) hp).trans k1).trans k2 |>.new (o := .lst [.int a, .int n]) hp2).trans k3
  refine rd_clR (by omega) (by omega) (fun D i H' => Kp d H3 H' ∧ Dk d (m + 3 + 10 * i) H' ∧ ∃ ws : List Wd, ws.length = i ∧ (∀ x ∈ ws, Wok x) ∧ H' D = some (.lst (wsV ws)))
    (fun D hD => ⟨(Kp.refl d H3).new hD, d3.new hD, [], rfl, (fun _ h => nomatch h), upd_same⟩) ?_ ?_
  · rintro D i H4 hD hi ⟨k4, d4, ws, hl, hw, h4⟩
    have nD := d3.ne hD
    walk_at "rd"
    refine ⟨d, z, _, rfl, rfl, hz.1, hz.2, d4, by omega, fun x H5 hx d5 k5 => ?_⟩
    refine ⟨wsV ws, k5 _ _ nD.symm h4, szLt (by rw [wsV_len]; omega), (k4.trans k5).put hD, (d5.mono (by omega)).put nD, ws ++ [x], by rw [List.length_append, hl]; rfl, ?_, by rw [upd_same, wsV_snoc]⟩
    intro y hy
    rcases List.mem_append.mp hy with hy | hy
    · exact hw y hy
    · rw [List.mem_singleton.mp hy]; exact hx
  · rintro D H4 hD ⟨k4, d4, ws, hl, hw, h4⟩
    walk_at "rd"
    exact q D ws H4 (kk.free (d3.ne hD).symm hD) h4 (by omega) hw (d4.mono (by omega)) (kk.trans k4)
def Φ_law_played (K : PySem.W.Frag) (vw vf : V) (H : Hp) (Q : VK) : Prop := ∃ (p f : Addr) (ws : List Wd) (row : List En) (fs : List V), vw = .ref p ∧ vf = .ref f ∧ SqL K H p (wsV ws) ∧ ws.length ≤ 100 ∧ (∀ x ∈ ws, Wok x) ∧ SqL K H f fs ∧ ImAll H fs (enAll row) ∧ row.length = 10 ∧
  ((play row [] ws).2.2 = none → ∀ (H' : Hp) (l r o : Addr) (xs ys : List V), Same H H' → H l = none → H r = none → H o = none → H' l = some (.lst [.ref r, .ref o, .non]) → H' r = some (.lst xs) → ImAll H' xs (enAll (play row [] ws).1) →
    H' o = some (.lst ys) → ImAll H' ys (opAll (play row [] ws).2.1) → Q (.ref l) H') ∧
  ∀ k, (play row [] ws).2.2 = some k → ∀ (H' : Hp) (l o : Addr), Same H H' → H l = none → H' l = some (.lst [.ref f, .ref o, .int k]) → H' o = some (.lst []) → Q (.ref l) H'
theorem wd_tl (x : Wd) : tl (wdS x) = wdL x := tl_mk _
theorem ok_law_played (T : Txt K mg) {f : Addr} {fd : FuncData} (F : Fun K "_law_played" "_law_played" s_law_played f fd) : Keeps P w K mg base CX0 1 f fd ["words_here", "first"] (sp2 (Φ_law_played K)) := by
  refine keeps0_of F sc_law_played (fun vs H Q E h => ?_) (fun cdv A outer s H vs Q E hr h => ?_)
  · obtain ⟨_, _, rfl, _⟩ := h
    rfl
  obtain ⟨v_words_here, v_first, rfl, h⟩ := h
  have hu := hr.hu
  refine ⟨_, (pss_cons (ps_par (i := 2) (j := 3) rfl sc_law_played.nd rfl rfl (by decide) rfl rfl (pa_cons (pe_callTy (callListX (K := K)) (by rfl) T.b_list (by decide +kernel) (pa_cons (pv 1) pa_nil)) (pa_cons (pe_lst pa_nil) pa_nil)) (by rfl))
      (pss_cons (ps_for PassesOwn.never rfl (pi_any (K := K) (pv 0)) (pg_name (i := 4) sc_law_played.nd rfl (by first | exact Or.inl rfl | exact Or.inr rfl)) (pss_cons (ps_par (i := 5) (j := 6) rfl sc_law_played.nd rfl rfl (by decide) rfl rfl (pa_cons (pe_callTy call_intX (by rfl) T.b_int (by decide +kernel) (pa_cons (pe_ix (ixX (K := K)) (pv 4) pe_int (fun _ _ => rfl)) pa_nil)) (pa_cons (pe_slice (sX (K := K)) (pv 4) (po_some pe_int) po_none) pa_nil)) (by rfl))
      (pss_one (ps_if (pt_cmpR (oEq (K := K) hr.u65) (pv 6) pe_str (nomark _)) (pss_one (ps_asg pe_non (pg_sub (pv 2) (pv 5) set_list))) (pss_one (ps_if (pt_cmpR (oEq (K := K) hr.u65) (pe_ix (ixX (K := K)) (pv 6) pe_int (fun _ _ => rfl)) pe_str (nomark _)) (pss_cons (ps_if (pt_cmpR oIs (pe_ix (ixX (K := K)) (pv 2) (pe_callTy call_intX (by rfl) T.b_int (by decide +kernel) (pa_cons (pe_ix (ixX (K := K)) (pv 6) pe_int (fun _ _ => rfl)) pa_nil)) (fun _ _ => rfl)) pe_non (nomark _)) (pss_one (ps_ret (pe_lst (pa_cons (pv 1) (pa_cons (pe_lst pa_nil) (pa_cons (pe_callTy call_intX (by rfl) T.b_int (by decide +kernel) (pa_cons (pe_ix (ixX (K := K)) (pv 6) pe_int (fun _ _ => rfl)) pa_nil)) pa_nil)))))) pss_nil)
      (pss_one (ps_asg (pe_ix (ixX (K := K)) (pv 2) (pe_callTy call_intX (by rfl) T.b_int (by decide +kernel) (pa_cons (pe_ix (ixX (K := K)) (pv 6) pe_int (fun _ _ => rfl)) pa_nil)) (fun _ _ => rfl)) (pg_sub (pv 2) (pv 5) set_list)))) (pss_cons (ps_asg (pe_tup (pa_cons pe_str (pa_cons (pe_callB (call_lenX (K := K)) (by rfl) T.b_len (by decide +kernel) (pa_cons (pv 3) pa_nil)) pa_nil))) (pg_sub (pv 2) (pv 5) set_list))
      (pss_one (ps_expr (pe_bmX (K := K) PySem.F.plainAttrs_list PySem.F.slot_list_append PySem.F.type_list_append mt_append (pv 3) (pa_cons (pe_tup (pa_cons (pe_ix (ixX (K := K)) (pv 4) pe_int (fun _ _ => rfl)) (pa_cons (pv 6) pa_nil))) pa_nil)))))))))))
      (pss_one (ps_ret (pe_lst (pa_cons (pv 2) (pa_cons (pv 3) (pa_cons pe_non pa_nil)))))))), ?_⟩
  rw [show start ["words_here", "first", "row", "made", "word", "one", "rest"] [v_words_here, v_first] = [some v_words_here, some v_first, none, none, none, none, none] from rfl]
  try dsimp only [cxOf, Cx.nox, Cx.wish]
  obtain ⟨p, f, ws, row, fs, rfl, rfl, hw, hwl, hok, hf, im, hl, q0, q1⟩ := h
  walk_at "rd"
  refine rd_lstL hf fun r hr1 => ?_
  walk_at "rd"
  intro o ho
  walk_at "rd"
  have ro : r ≠ o := ne_of_none upd_same ho
  have ho' : H o = none := by rw [upd_ne ro.symm] at ho; exact ho
  refine rd_forL ?_
  walk_at "rd"
  refine rd_itL (xs := wsV ws) ((((Same.refl H).new hr1).new ho).seq hw) (fun i σ H' => Same H H' ∧ ∃ (row' : List En) (ops : Ops) (xs ys : List V) (a b c : Option V), row'.length = 10 ∧ H' r = some (.lst xs) ∧ H' o = some (.lst ys) ∧ ImAll H' xs (enAll row') ∧ ImAll H' ys (opAll ops) ∧ ops.length ≤ i ∧ play row [] ws = play row' ops (ws.drop i) ∧ σ = [some (.ref p), some (.ref f), some (.ref r), some (.ref o), a, b, c])
    ⟨((Same.refl H).new hr1).new ho, row, [], fs, [], none, none, none, hl, by rw [upd_ne ro]; exact upd_same, upd_same, im.up (Tp.of (((Same.refl H).new hr1).new ho)), .nil, Nat.le_refl _, by rw [List.drop_zero], rfl⟩ ?_ ?_ ?_
  · rintro i σ H' _ ⟨k, _⟩
    exact k.seq hw
  · rintro i x σ H1 hi ⟨k1, row', ops, xs, ys, a, b, c0, hl', h1, h2, im1, im2, hops, eq, rfl⟩
    obtain ⟨y, hy, rfl⟩ := wsV_at hi
    have hyok := hok y (List.mem_of_getElem? hy)
    have dy : ws.drop i = y :: ws.drop (i + 1) := by
      obtain ⟨l, e⟩ := List.getElem?_eq_some_iff.mp hy
      rw [List.drop_eq_getElem_cons l, e]
    have hi' : i < ws.length := (List.getElem?_eq_some_iff.mp hy).1
    rw [dy] at eq
    have hL : 3 ≤ (wdL y).length ∧ (wdL y).length ≤ 10 := by
      cases y with
      | close n => exact ⟨Nat.le_of_ble_eq_true rfl, Nat.le_of_ble_eq_true rfl⟩
      | copy s d => exact ⟨Nat.le_of_ble_eq_true rfl, Nat.le_of_ble_eq_true rfl⟩
      | opn n c nm => obtain ⟨_, _, h1, h2, _⟩ := hyok; exact ⟨by show 3 ≤ nm.length + 1 + 1; omega, by show nm.length + 1 + 1 ≤ 10; omega⟩
    have hwl2 := wd_len y
    obtain ⟨n, c, t, ex, hn, hc⟩ : ∃ n c t, wdL y = (48 + n) :: c :: t ∧ n < 10 ∧ (c = 62 ∨ c = 60) := by
      cases y with
      | close n => exact ⟨n, _, _, rfl, hyok, .inl rfl⟩
      | copy s d => exact ⟨d, _, _, rfl, hyok.2, .inl rfl⟩
      | opn n c nm => exact ⟨n, c, _, rfl, hyok.1, hyok.2.1⟩
    have a0 : atI (wdS y).cps.toList 0 = some (48 + n) := wd_at (i := 0) (by rw [ex]; rfl)
    have a1 : atI (wdS y).cps.toList 1 = some c := wd_at (i := 1) (by rw [ex]; rfl)
    have er : cutS (wdS y) (some 2) none = mk t := by
      have := tl_drop (wdS y) 2
      rw [wd_tl, ex] at this
      exact str_ext (by rw [tl_mk]; exact this)
    walk_at "rd"
    refine rd_ixS (szOk (by omega)) a0 ?_
    walk_at "rd"
    refine rd_intS (int_dig hn) (by show 1 ≤ 640; decide) ?_
    walk_at "rd"
    rw [er]
    clear er
    have lr : (mk t).length ≤ 8 := by rw [len_mk]; rw [ex, List.length_cons, List.length_cons] at hL; omega
    cases y with
    | close m =>
      obtain ⟨e1, e2⟩ := List.cons.inj ex
      obtain ⟨rfl, rfl⟩ := List.cons.inj e2
      obtain rfl : m = n := by omega
      refine rd_yesI (decide_eq_true (by decide +kernel)) ?_
      obtain ⟨_, _, _, hd⟩ := en_at im1 hl' hn
      walk_at "rd"
      refine rd_setL h1 hd ?_
      walk_at "rd"
      rw [play_close] at eq
      have tp := (Tp.refl H1).lst (o := .lst (xs.set m .non)) h1
      exact ⟨k1.put hr1, _, ops, _, ys, _, _, _, by rw [List.length_set]; exact hl', upd_same, by rw [upd_ne ro.symm]; exact h2, by rw [en_set]; exact (im1.set m .non).up tp, im2.up tp, by omega, eq, rfl⟩
    | copy s d =>
      obtain ⟨e1, e2⟩ := List.cons.inj ex
      obtain ⟨rfl, rfl⟩ := List.cons.inj e2
      obtain rfl : d = n := by omega
      have n45 : decide (mk [38, 48 + s] = "&-") = false := by
        rw [dec_tl, tl_mk, show tl ("&-" : Str) = [38, 45] by decide +kernel]
        refine decide_eq_false fun e => ?_
        simp only [List.cons.injEq, and_true, true_and] at e
        omega
      rw [n45]
      walk_at "rd"
      refine rd_ixS (c := 38) (szOk (by omega)) (atI_nat (j := 0) rfl) ?_
      walk_at "rd"
      refine rd_yesI (by decide +kernel) ?_
      walk_at "rd"
      refine rd_ixS (c := 48 + s) (szOk (by omega)) (atI_nat (j := 1) rfl) ?_
      walk_at "rd"
      refine rd_intS (int_dig hyok.1) (by show 1 ≤ 640; decide) ?_
      obtain ⟨v, hv, imv, _⟩ := en_at im1 hl' hyok.1
      obtain ⟨_, _, _, hd⟩ := en_at im1 hl' hyok.2
      refine rd_ixL (SqL.of h1) hv ?_
      walk_at "rd"
      rw [en_non imv]
      refine rd_ite (fun hn => ?_) (fun hn => ?_)
      · have hn := of_decide_eq_true hn
        rw [play_stop hn] at eq
        walk_at "rd"
        intro o2 ho2
        walk_at "rd"
        refine rd_ixS (c := 48 + s) (szOk (by omega)) (atI_nat (j := 1) rfl) ?_
        walk_at "rd"
        refine rd_intS (int_dig hyok.1) (by show 1 ≤ 640; decide) ?_
        walk_at "rd"
        intro l hl3
        have hl4 : H l = none := Sub.of (k1.new ho2) _ hl3
        exact q1 s (by rw [eq]) _ l o2 ((k1.new ho2).new hl3) hl4 upd_same (by rw [upd_ne (ne_of_none upd_same hl3)]; exact upd_same)
      · have hn := of_decide_eq_false hn
        rw [play_copy hn] at eq
        walk_at "rd"
        refine rd_ixS (c := 48 + s) (szOk (by omega)) (atI_nat (j := 1) rfl) ?_
        walk_at "rd"
        refine rd_intS (int_dig hyok.1) (by show 1 ≤ 640; decide) ?_
        refine rd_ixL (SqL.of h1) hv ?_
        walk_at "rd"
        refine rd_setL h1 hd ?_
        walk_at "rd"
        have tp := (Tp.refl H1).lst (o := .lst (xs.set d v)) h1
        exact ⟨k1.put hr1, _, ops, _, ys, _, _, _, by rw [List.length_set]; exact hl', upd_same, by rw [upd_ne ro.symm]; exact h2, by rw [en_set]; exact (im1.set d imv).up tp, im2.up tp, by omega, eq, rfl⟩
    | opn m c' nm =>
      obtain ⟨e1, e2⟩ := List.cons.inj ex
      obtain ⟨rfl, rfl⟩ := List.cons.inj e2
      obtain rfl : m = n := by omega
      obtain ⟨f1, g1, hf1⟩ : ∃ f g, nm = f :: g := by
        obtain ⟨_, _, h1, _⟩ := hyok
        cases nm with
        | nil => exact absurd h1 (by decide)
        | cons f g => exact ⟨f, g, rfl⟩
      have hf2 : 97 ≤ f1 ∧ f1 ≤ 122 := hyok.2.2.2.2 f1 (by rw [hf1]; exact List.mem_cons_self)
      have n45 : decide (mk nm = "&-") = false := by
        rw [dec_tl, tl_mk, show tl ("&-" : Str) = [38, 45] by decide +kernel, hf1]
        refine decide_eq_false fun e => ?_
        simp only [List.cons.injEq] at e
        omega
      have n38 : decide ((⟨#[f1]⟩ : Str) = "&") = false := by
        rw [dec_tl, tl_sg, show tl ("&" : Str) = [38] by decide +kernel]
        refine decide_eq_false fun e => ?_
        simp only [List.cons.injEq] at e
        omega
      rw [n45]
      walk_at "rd"
      refine rd_ixS (c := f1) (szOk (by omega)) (atI_nat (j := 0) (by rw [hf1]; rfl)) ?_
      walk_at "rd"
      rw [n38]
      walk_at "rd"
      refine rd_lenL (SqL.of h2) ?_
      walk_at "rd"
      intro t1 ht1
      have k3 := (Same.refl H1).new (o := .tup [.str "new", .int (ys.length : Nat)]) ht1
      walk_at "rd"
      obtain ⟨_, _, _, hd⟩ := en_at im1 hl' hyok.1
      refine rd_setL (k3 _ _ h1) hd ?_
      have k4 := (Tp.of k3).lst (o := .lst (xs.set m (.ref t1))) (k3 _ _ h1)
      have g2' : upd (upd H1 t1 (.tup [.str "new", .int (ys.length : Nat)])) r (.lst (xs.set m (.ref t1))) o = some (.lst ys) := by rw [upd_ne ro.symm]; exact k3 _ _ h2
      walk_at "rd"
      refine rd_tyL (SqL.of g2') ?_
      walk_at "rd"
      refine rd_ixS (szOk (by omega)) a1 ?_
      walk_at "rd"
      intro t2 ht2
      walk_at "rd"
      have k5 := k4.new (o := .tup [.str (sg c'), .str (mk nm)]) ht2
      have rt2 : r ≠ t2 := fun e => by rw [← e, upd_same] at ht2; cases ht2
      have ot2 : o ≠ t2 := fun e => by rw [← e, g2'] at ht2; cases ht2
      have ly := im2.length
      unfold opAll at ly
      rw [List.length_map] at ly
      refine rd_app (xs := ys) (by rw [upd_ne ot2]; exact g2') (szLt (by omega)) ?_
      walk_at "rd"
      rw [play_opn] at eq
      have g2'' : upd (upd (upd H1 t1 (.tup [.str "new", .int (ys.length : Nat)])) r (.lst (xs.set m (.ref t1)))) t2 (.tup [.str (sg c'), .str (mk nm)]) o = some (.lst ys) := by rw [upd_ne ot2]; exact g2'
      have k6 := k5.lst (o := .lst (ys ++ [.ref t2])) g2''
      refine ⟨((((k1.new ht1).put hr1).new ht2).put ho'), row'.set m (.new ops.length), ops ++ [(c', nm)], xs.set m (.ref t1), ys ++ [.ref t2], _, _, _, by rw [List.length_set]; exact hl', by rw [upd_ne ro, upd_ne rt2]; exact upd_same, upd_same, ?_, ?_, by rw [List.length_append]; simp; omega, eq, rfl⟩
      · rw [en_set]
        have i4 : Im (upd H1 t1 (.tup [.str "new", .int (ys.length : Nat)])) (.ref t1) (enD (.new ops.length)) := by
          rw [ly]
          exact .mk2 upd_same (.str _) (.int _)
        have tp2 : Tp (upd H1 t1 (.tup [.str "new", .int (ys.length : Nat)])) _ := (((Tp.refl _).lst (o := .lst (xs.set m (.ref t1))) (k3 _ _ h1)).new (o := .tup [.str (sg c'), .str (mk nm)]) ht2).lst (o := .lst (ys ++ [.ref t2])) g2''
        exact ((im1.up (Tp.of k3)).set m i4).up tp2
      · unfold opAll
        rw [List.map_append]
        exact (im2.up k6).snoc (.mk2 (by rw [upd_ne ot2.symm]; exact upd_same) (.str _) (.str _))
  · rintro σ H1 ⟨k1, row', ops, xs, ys, a, b, c, hl', h1, h2, im1, im2, hops, eq, rfl⟩
    rw [wsV_len, List.drop_length] at eq
    rw [eq] at q0
    walk_at "rd"
    intro l hl3
    have k3 := (Same.refl H1).new (o := .lst [.ref r, .ref o, .non]) hl3
    exact q0 rfl _ l r o xs ys (k1.trans k3) (Sub.of k1 _ hl3) hr1 ho' upd_same (k3 _ _ h1) (im1.up (Tp.of k3)) (k3 _ _ h2) (im2.up (Tp.of k3))
def Φ_law_form (K : PySem.W.Frag) (v : V) (H : Hp) (Q : VK) : Prop := ∃ (p : Addr) (ws : List Wd), v = .ref p ∧ SqL K H p (wsV ws) ∧ ws.length ≤ 100 ∧ (∀ x ∈ ws, Wok x) ∧ ∀ (H' : Hp) (u : V), Same H H' → Im H' u (formD (formS ws)) → Q u H'
theorem ok_law_form (T : Txt K mg) {f : Addr} {fd : FuncData} (F : Fun K "_law_form" "_law_form" s_law_form f fd) : Keeps P w K mg base CX0 2 f fd ["words_here"] (sp1 (Φ_law_form K)) := by
  have c_law_played := cal (P := P) (w := w) (base := base) T.d_law_played fun F => ok_law_played T F
  refine keeps0_of F sc_law_form (fun vs H Q E h => ?_) (fun cdv A outer s H vs Q E hr h => ?_)
  · obtain ⟨_, rfl, _⟩ := h
    rfl
  obtain ⟨v_words_here, rfl, h⟩ := h
  have hu := hr.hu
  refine ⟨_, (pss_cons (ps_setLc (i := 1) (own := [("n", 6)]) rfl sc_law_form.nd rfl rfl (sw_true rfl rfl rfl (by decide +kernel)) (pi_range1 (by rfl) T.b_range (pa_cons pe_int pa_nil)) (blkOk_by (own := [("n", 6)]) (N := ["words_here", "full", "row", "made", "fails", "needs", "n"]) (sc := defScope s_law_form) (by decide +kernel)) (fun _ _ _ _ _ => pg_name (i := 6) sc_law_form.nd rfl (by first | exact Or.inl rfl | exact Or.inr rfl)) (fun _ _ _ _ _ => pts_nil) (fun _ _ _ _ _ => (pe_tup (pa_cons pe_str (pa_cons (pv 6) pa_nil)))))
      (pss_cons (ps_asg (pe_cal c_law_played (hr.mono (by decide)) (by rfl) pass0 (pa_cons (pv 0) (pa_cons (pv 1) pa_nil))) (pg_seqX (K := K) rfl (pgs_cons (pg_name (i := 2) sc_law_form.nd rfl (by first | exact Or.inl rfl | exact Or.inr rfl)) (pgs_cons (pg_name (i := 3) sc_law_form.nd rfl (by first | exact Or.inl rfl | exact Or.inr rfl)) (pgs_cons (pg_name (i := 4) sc_law_form.nd rfl (by first | exact Or.inl rfl | exact Or.inr rfl)) pgs_nil)))))
      (pss_cons (ps_if (pt_cmpR oIsNot (pv 4) pe_non (nomark _)) (pss_one (ps_ret pe_non)) pss_nil)
      (pss_cons (ps_set (i := 5) sc_law_form.nd rfl (by first | exact Or.inl rfl | exact Or.inr rfl) (pe_lst pa_nil))
      (pss_cons (ps_for PassesOwn.never rfl (pi_range1 (by rfl) T.b_range (pa_cons pe_int pa_nil)) (pg_name (i := 6) sc_law_form.nd rfl (by first | exact Or.inl rfl | exact Or.inr rfl)) (pss_one (ps_if (pt_cmpR oIsNot (pe_ix (ixX (K := K)) (pe_cal c_law_played (hr.mono (by decide)) (by rfl) pass0 (pa_cons (pv 0) (pa_cons (pe_op (oAdd (K := K)) (pe_op (oAdd (K := K)) (pe_slice (sX (K := K)) (pv 1) po_none (po_some (pv 6))) (pe_lst (pa_cons pe_non pa_nil))) (pe_slice (sX (K := K)) (pv 1) (po_some (pe_op (oAdd (K := K)) (pv 6) pe_int)) po_none)) pa_nil))) pe_int (fun _ _ => rfl)) pe_non (nomark _)) (pss_one (ps_expr (pe_bmX (K := K) PySem.F.plainAttrs_list PySem.F.slot_list_append PySem.F.type_list_append mt_append (pv 5) (pa_cons (pv 6) pa_nil)))) pss_nil)))
      (pss_one (ps_ret (pe_tup (pa_cons (pe_callTy (callTupX (K := K)) (by rfl) T.b_tuple (by decide +kernel) (pa_cons (pv 5) pa_nil)) (pa_cons (pe_callTy (callTupX (K := K)) (by rfl) T.b_tuple (by decide +kernel) (pa_cons (pv 3) pa_nil)) (pa_cons (pe_callTy (callTupX (K := K)) (by rfl) T.b_tuple (by decide +kernel) (pa_cons (pv 2) pa_nil)) pa_nil))))))))))), ?_⟩
  rw [show start ["words_here", "full", "row", "made", "fails", "needs", "n"] [v_words_here] = [some v_words_here, none, none, none, none, none, none] from rfl]
  try dsimp only [cxOf, Cx.nox, Cx.wish]
  obtain ⟨p, ws, rfl, hw, hwl, hok, q⟩ := h
  walk_at "rd"
  refine rd_clR (by decide) (by decide) (fun D i H' => Same H H' ∧ ∃ xs, H' D = some (.lst xs) ∧ ImAll H' xs (enAll ((List.range i).map En.old)))
    (fun D hD => ⟨(Same.refl H).new hD, [], upd_same, .nil⟩) ?_ ?_
  · rintro D i H1 hD hi ⟨k1, xs, h1, im⟩
    walk_at "rd"
    intro t ht
    have k2 := (Same.refl H1).new (o := .tup [.str "old", .int (i : Int)]) ht
    have l := im.length
    unfold enAll at l
    rw [List.length_map, List.length_map, List.length_range] at l
    have tp := (Tp.of k2).lst (o := .lst (xs ++ [.ref t])) (k2 _ _ h1)
    refine ⟨xs, k2 _ _ h1, szLt (by omega), (k1.trans k2).put hD, _, upd_same, ?_⟩
    rw [olds_snoc]
    have tD : t ≠ D := fun e => by rw [e, h1] at ht; cases ht
    exact (im.up tp).snoc (.mk2 (by rw [upd_ne tD]; exact upd_same) (.str _) (.int _))
  rintro D H1 hD ⟨k1, xs, h1, im⟩
  walk_at "rd"
  refine ⟨p, D, ws, olds, xs, rfl, rfl, k1.seq hw, hwl, hok, SqL.of h1, im, olds_len, ?_, ?_⟩
  rotate_left
  · intro k ef H2 l o k2 hl0 hl2 ho2
    have e : formS ws = none := if_neg (by rw [ef]; exact fun h => nomatch h)
    rw [e] at q
    refine rd_glst (SqL.of hl2) rfl ?_
    walk_at "rd"
    refine rd_yesI rfl ?_
    walk_at "rd"
    exact q H2 .non (k1.trans k2) .non
  intro ef H2 l r o xs2 ys2 k2 hl0 hr0 ho0 hl2 hr2 im2 ho2 im3
  have e : formS ws = some ((List.range 10).filter (fun n => decide (n ∈ ndOf olds ws)), (play olds [] ws).2.1, (play olds [] ws).1) := if_pos ef
  rw [e] at q
  refine rd_glst (SqL.of hl2) rfl ?_
  walk_at "rd"
  refine rd_noI rfl ?_
  walk_at "rd"
  intro nd hnd
  walk_at "rd"
  have kk := k1.trans k2
  refine rd_itR (by decide) (by decide) (fun i σ H' => Same H2 H' ∧ H' nd = some (.lst (((List.range i).filter (fun n => decide (n ∈ ndOf olds ws))).map fun n : Nat => V.int n)) ∧ ∃ v, σ = [some (.ref p), some (.ref D), some (.ref r), some (.ref o), some .non, some (.ref nd), v])
    ⟨(Same.refl H2).new hnd, upd_same, _, rfl⟩ ?_ ?_
  · rintro i σ H3 hi ⟨k3, h3, v, rfl⟩
    have hi' : i < 10 := by omega
    have snoc : ((List.range (i + 1)).filter (fun n => decide (n ∈ ndOf olds ws))).map (fun n : Nat => V.int n) = ((List.range i).filter (fun n => decide (n ∈ ndOf olds ws))).map (fun n : Nat => V.int n) ++ (if i ∈ ndOf olds ws then [V.int i] else []) := by
      rw [List.range_succ, List.filter_append, List.map_append]
      congr 1
      by_cases c : i ∈ ndOf olds ws
      · rw [if_pos c, List.filter_cons, if_pos (decide_eq_true c)]; rfl
      · rw [if_neg c, List.filter_cons, if_neg (by rw [decide_eq_false c]; decide)]; rfl
    have hD := k3 _ _ (k2 _ _ h1)
    have imD := im.up (Tp.of (k2.trans k3))
    walk_at "rd"
    refine rd_slL (SqL.of hD) fun a ha => ?_
    have s1 := (Same.refl H3).new (o := .lst (cutV xs none (some (i : Int)))) ha
    walk_at "rd"
    intro b hb
    have s2 := s1.new (o := .lst [.non]) hb
    have lx : xs.length = 10 := im.length
    refine rd_cat (by rw [upd_ne (ne_of_none upd_same hb)]; exact upd_same) upd_same (szOk (by have := cutV_length xs none (some (i : Int)); show _ + 1 ≤ _; omega)) fun c hc => ?_
    have s3 := s2.new (o := .lst (cutV xs none (some (i : Int)) ++ [.non])) hc
    walk_at "rd"
    refine rd_slL (SqL.of (s3 _ _ hD)) fun e he => ?_
    rw [show (i : Int) + 1 = ((i + 1 : Nat) : Int) by omega]
    have s4 := s3.new (o := .lst (cutV xs (some ((i + 1 : Nat) : Int)) none)) he
    walk_at "rd"
    refine rd_cat (by rw [upd_ne (ne_of_none upd_same he)]; exact upd_same) upd_same (szOk (by
      have h1 := cutV_length xs none (some (i : Int))
      have h2 := cutV_length xs (some ((i + 1 : Nat) : Int)) none
      rw [List.length_append, List.length_singleton]; omega)) fun g hg => ?_
    have s5 := s4.new (o := .lst (cutV xs none (some (i : Int)) ++ [.non] ++ cutV xs (some ((i + 1 : Nat) : Int)) none)) hg
    walk_at "rd"
    have imK : ImAll (upd (upd (upd (upd (upd H3 a (.lst (cutV xs none (some (i : Int))))) b (.lst [.non])) c (.lst (cutV xs none (some (i : Int)) ++ [.non]))) e (.lst (cutV xs (some ((i + 1 : Nat) : Int)) none))) g (.lst (cutV xs none (some (i : Int)) ++ [.non] ++ cutV xs (some ((i + 1 : Nat) : Int)) none)))
        (cutV xs none (some (i : Int)) ++ [.non] ++ cutV xs (some ((i + 1 : Nat) : Int)) none) (enAll (olds.map (kl i))) := by
      have ek : enAll (olds.map (kl i)) = (enAll olds).take i ++ [enD .non] ++ (enAll olds).drop (i + 1) := by
        have : ∀ i, i < 10 → olds.map (kl i) = olds.take i ++ [.non] ++ olds.drop (i + 1) := by decide
        rw [this i hi']
        unfold enAll
        rw [List.map_append, List.map_append, List.map_take, List.map_drop]
        rfl
      rw [ek, cutV_take, cutV_drop]
      have j := imD.up (Tp.of s5)
      rw [cutV_take, cutV_drop] at j
      exact ((j.take i).append (.cons .non .nil)).append (j.drop (i + 1))
    obtain ⟨pk1, pk2⟩ := play_kill i ws ef
    refine ⟨p, g, ws, olds.map (kl i), _, rfl, rfl, ((kk.trans k3).trans s5).seq hw, hwl, hok, SqL.of upd_same, imK, by rw [List.length_map]; exact olds_len, ?_, ?_⟩
    · intro ek H4 l4 r4 o4 xs4 ys4 k4 _ _ _ hl4 _ _ _ _
      have hm : i ∉ ndOf olds ws := fun h => pk1 h ek
      walk_at "rd"
      try refine rd_ixL (SqL.of hl4) rfl ?_
      walk_at "rd"
      refine rd_noI rfl ?_
      walk_at "rd"
      have k5 := k3.trans (s5.trans k4)
      refine ⟨k5, ?_, _, rfl⟩
      rw [snoc, if_neg hm, List.append_nil]
      exact (s5.trans k4) _ _ h3
    · intro k ek H4 l4 o4 k4 _ hl4 _
      have hm : i ∈ ndOf olds ws := Decidable.byContradiction fun h => by rw [pk2 h] at ek; cases ek
      walk_at "rd"
      try refine rd_ixL (SqL.of hl4) rfl ?_
      walk_at "rd"
      refine rd_yesI rfl ?_
      walk_at "rd"
      have k5 := k3.trans (s5.trans k4)
      have h5 := (s5.trans k4) _ _ h3
      refine rd_tyL (SqL.of h5) ?_
      walk_at "rd"
      have hlen : (((List.range i).filter (fun n => decide (n ∈ ndOf olds ws))).map fun n : Nat => V.int n).length ≤ 10 := by
        rw [List.length_map]
        have := List.length_filter_le (fun n => decide (n ∈ ndOf olds ws)) (List.range i)
        rw [List.length_range] at this
        omega
      refine rd_app h5 (szLt (by omega)) ?_
      walk_at "rd"
      refine ⟨k5.put hnd, ?_, _, rfl⟩
      rw [snoc, if_pos hm]
      exact upd_same
  · rintro σ H3 ⟨k3, h3, v, rfl⟩
    walk_at "rd"
    refine rd_tupL (SqL.of h3) fun a ha => ?_
    have s1 := (Same.refl H3).new (o := .tup (((List.range (Int.toNat 10)).filter (fun n => decide (n ∈ ndOf olds ws))).map fun n : Nat => V.int n)) ha
    walk_at "rd"
    refine rd_tupL (SqL.of (s1 _ _ (k3 _ _ ho2))) fun b hb => ?_
    have s2 := s1.new (o := .tup ys2) hb
    walk_at "rd"
    refine rd_tupL (SqL.of (s2 _ _ (k3 _ _ hr2))) fun c hc => ?_
    have s3 := s2.new (o := .tup xs2) hc
    walk_at "rd"
    intro t ht
    have s4 := s3.new (o := .tup [.ref a, .ref b, .ref c]) ht
    have fa := ((((Same.refl (upd H3 a (.tup (((List.range (Int.toNat 10)).filter (fun n => decide (n ∈ ndOf olds ws))).map fun n : Nat => V.int n)))).new (o := .tup ys2) hb).new (o := .tup xs2) hc).new (o := .tup [.ref a, .ref b, .ref c]) ht) _ _ upd_same
    have fb := (((Same.refl (upd (upd H3 a (.tup (((List.range (Int.toNat 10)).filter (fun n => decide (n ∈ ndOf olds ws))).map fun n : Nat => V.int n))) b (.tup ys2))).new (o := .tup xs2) hc).new (o := .tup [.ref a, .ref b, .ref c]) ht) _ _ upd_same
    have fc := ((Same.refl (upd (upd (upd H3 a (.tup (((List.range (Int.toNat 10)).filter (fun n => decide (n ∈ ndOf olds ws))).map fun n : Nat => V.int n))) b (.tup ys2)) c (.tup xs2))).new (o := .tup [.ref a, .ref b, .ref c]) ht) _ _ upd_same
    have ins := im_ints (H := upd (upd (upd (upd H3 a (.tup (((List.range (Int.toNat 10)).filter (fun n => decide (n ∈ ndOf olds ws))).map fun n : Nat => V.int n))) b (.tup ys2)) c (.tup xs2)) t (.tup [.ref a, .ref b, .ref c])) (((List.range 10).filter (fun n => decide (n ∈ ndOf olds ws))).map fun n : Nat => (n : Int))
    rw [List.map_map] at ins
    exact q _ _ ((kk.trans k3).trans s4) (.mk3 upd_same (.tup fa ins) (.tup fb (im3.up (Tp.of (k3.trans s4)))) (.tup fc (im2.up (Tp.of (k3.trans s4)))))
theorem ws_dp {K : PySem.W.Frag} {H : Hp} {p : Addr} {ws : List Wd} (h : H p = some (.lst (wsV ws))) : Dp K H (.ref p) (.list (ws.map fun x => .str (wdS x))) := by
  refine .lst (SqL.of h) ?_
  have := (im_strs (H := H) (ws.map wdS)).to (K := K)
  rw [List.map_map, List.map_map] at this
  exact this

def Φ_law_right (K : PySem.W.Frag) (v : V) (H : Hp) (Q : VK) : Prop := ∃ (p : Addr) (ws : List Wd), v = .ref p ∧ H p = some (.lst (wsV ws)) ∧ ws.length ≤ 40 ∧ (∀ x ∈ ws, Wok x) ∧ ∀ H', Same H H' → Q (.bl true) H'
theorem ok_law_right (T : Txt K mg) {f : Addr} {fd : FuncData} (F : Fun K "_law_right" "_law_right" s_law_right f fd) : Keeps P w K mg base CX0 7 f fd ["row"] (sp1 (Φ_law_right K)) := by
  have c_law_form := cal (P := P) (w := w) (base := base) T.d_law_form fun F => ok_law_form T F
  have c_normal_form := cal (P := P) (w := w) (base := base) T.d_normal_form fun F => ok_normal_form T F
  refine keeps0_of F sc_law_right (fun vs H Q E h => ?_) (fun cdv A outer s H vs Q E hr h => ?_)
  · obtain ⟨_, rfl, _⟩ := h
    rfl
  obtain ⟨v_row, rfl, h⟩ := h
  have hu := hr.hu
  refine ⟨_, (pss_cons (ps_par (i := 1) (j := 2) rfl sc_law_right.nd rfl rfl (by decide) rfl rfl (pa_cons (pe_callB (call_reprX (K := K) (hr.mono (Nat.zero_le _))) (by rfl) T.b_repr (by decide +kernel) (pa_cons (pv 0) pa_nil)) (pa_cons (pe_cal c_law_form (hr.mono (by decide)) (by rfl) pass0 (pa_cons (pv 0) pa_nil)) pa_nil)) (by rfl))
      (pss_one (ps_ret (pe_and (pe_cmpR (oEq (K := K) hr.u65) (pe_callB (call_reprX (K := K) (hr.mono (Nat.zero_le _))) (by rfl) T.b_repr (by decide +kernel) (pa_cons (pe_lst (pa_cons (pe_cal c_normal_form (hr.mono (by decide)) (by rfl) pass0 (pa_cons (pv 0) pa_nil)) (pa_cons (pe_calK0 (ks := ["words"]) (pm := [0]) c_normal_form (hr.mono (by decide)) (by rfl) (fun _ _ _ _ _ _ us ws h1 h2 => match us, ws, h1, h2 with | [], [_], _, _ => rfl) pass0 (pk_cons (pv 0) pk_nil)) pa_nil))) pa_nil)) (pe_callB (call_reprX (K := K) (hr.mono (Nat.zero_le _))) (by rfl) T.b_repr (by decide +kernel) (pa_cons (pe_lst (pa_cons (pv 2) (pa_cons (pv 2) pa_nil))) pa_nil)) (nomark _)) (pe_one (pe_cmpR (oEq (K := K) hr.u65) (pe_callB (call_reprX (K := K) (hr.mono (Nat.zero_le _))) (by rfl) T.b_repr (by decide +kernel) (pa_cons (pv 0) pa_nil)) (pv 1) (nomark _))))))), ?_⟩
  rw [show start ["row", "before", "due"] [v_row] = [some v_row, none, none] from rfl]
  try dsimp only [cxOf, Cx.nox, Cx.wish]
  obtain ⟨p, ws, rfl, hw, hwl, hok, q⟩ := h
  have sw := (ws_bd hok (by omega)).shows (by omega) (by decide)
  have bf := form_bd hok (show ws.length ≤ 100 by omega)
  walk_at "rd"
  refine rd_repr (ws_dp hw) sw ?_
  walk_at "rd"
  refine ⟨p, ws, rfl, SqL.of hw, by omega, hok, fun H1 u k1 iu => ?_⟩
  walk_at "rd"
  refine ⟨p, ws, rfl, k1 _ _ hw, hwl, hok, fun H2 a k2 ia => ?_⟩
  walk_at "rd"
  refine ⟨rfl, rfl, _, rfl, p, ws, rfl, k2 _ _ (k1 _ _ hw), hwl, hok, fun H3 b k3 ib => ?_⟩
  walk_at "rd"
  intro l hl
  have k4 := (Same.refl H3).new (o := .lst [a, b]) hl
  walk_at "rd"
  have b2 : Shows (.list [formD (formS ws), formD (formS ws)]) := ((Bd.lst (k := 3) (w := 10000) fun d hd => by
    simp only [List.mem_cons, List.not_mem_nil, or_false, or_self] at hd
    rw [hd]; exact bf).mono (Nat.le_refl _) (Nat.le_refl _)).shows (by omega) (by show 2 * 10001 ≤ _; decide)
  refine rd_repr (.lst (SqL.of upd_same) (.cons (ia.up (Tp.of (k3.trans k4))).to (.cons (ib.up (Tp.of k4)).to .nil))) b2 ?_
  walk_at "rd"
  intro l2 hl2
  have k5 := k4.new (o := .lst [u, u]) hl2
  have iu5 := iu.up (Tp.of ((k2.trans k3).trans k5))
  walk_at "rd"
  refine rd_repr (.lst (SqL.of upd_same) (.cons iu5.to (.cons iu5.to .nil))) b2 ?_
  walk_at "rd"
  rw [decide_eq_true rfl]
  walk_at "rd"
  have kk := ((k1.trans k2).trans k3).trans k5
  refine rd_repr (ws_dp (kk _ _ hw)) sw ?_
  walk_at "rd"
  rw [decide_eq_true rfl]
  exact q _ kk
def Φ_law_holds (K : PySem.W.Frag) (vd vm : V) (H : Hp) (Q : VK) : Prop := ∃ (d : Addr) (n : Nat), vd = .ref d ∧ vm = .int n ∧ n ≤ 40 ∧ Dk d 0 H ∧ ∀ H', Kp d H H' → Q (.bl true) H'
theorem form_non {ws : List Wd} {H : Hp} {u : V} (h : Im H u (formD (formS ws))) : decide (u = .non) = (formS ws).isNone := by
  cases e : formS ws with
  | none => rw [e] at h; exact decide_eq_true h.n
  | some f =>
    rw [e] at h
    obtain ⟨_, _, _, _, rfl, _⟩ := h.t3
    rfl
theorem wsV_drop (ws : List Wd) : wsV ws.dropLast = (wsV ws).dropLast := List.map_dropLast
theorem ok_law_holds (T : Txt K mg) {f : Addr} {fd : FuncData} (F : Fun K "_law_holds" "_law_holds" s_law_holds f fd) : Keeps P w K mg base CX0 8 f fd ["source", "most"] (sp2 (Φ_law_holds K)) := by
  have c_law_some_words := cal (P := P) (w := w) (base := base) T.d_law_some_words fun F => ok_law_some_words T F
  have c_normal_form := cal (P := P) (w := w) (base := base) T.d_normal_form fun F => ok_normal_form T F
  have c_law_right := cal (P := P) (w := w) (base := base) T.d_law_right fun F => ok_law_right T F
  have c_law_form := cal (P := P) (w := w) (base := base) T.d_law_form fun F => ok_law_form T F
  refine keeps0_of F sc_law_holds (fun vs H Q E h => ?_) (fun cdv A outer s H vs Q E hr h => ?_)
  · obtain ⟨_, _, rfl, _⟩ := h
    rfl
  obtain ⟨v_source, v_most, rfl, h⟩ := h
  have hu := hr.hu
  refine ⟨_, (pss_cons (ps_for PassesOwn.never rfl (pi_range1 (by rfl) T.b_range (pa_cons pe_int pa_nil)) (pg_name (i := 2) sc_law_holds.nd rfl (by first | exact Or.inl rfl | exact Or.inr rfl)) (pss_cons (ps_set (i := 3) sc_law_holds.nd rfl (by first | exact Or.inl rfl | exact Or.inr rfl) (pe_cal c_law_some_words (hr.mono (by decide)) (by rfl) pass0 (pa_cons (pv 0) (pa_cons (pv 1) pa_nil))))
      (pss_cons (ps_if (pt_not (pt_val (pe_cal c_law_right (hr.mono (by decide)) (by rfl) pass0 (pa_cons (pv 3) pa_nil)))) (pss_one (ps_ret pe_bl)) pss_nil)
      (pss_cons (ps_while PassesOwn.never (pt_cmpR oIs (pe_cal c_law_form (hr.mono (by decide)) (by rfl) pass0 (pa_cons (pv 3) pa_nil)) pe_non (nomark _)) (pss_one (ps_expr (pe_bm0X (K := K) PySem.F.plainAttrs_list PySem.F.slot_list_pop PySem.F.type_list_pop mt_pop (pv 3)))))
      (pss_cons (ps_if (pt_not (pt_val (pe_cal c_law_right (hr.mono (by decide)) (by rfl) pass0 (pa_cons (pv 3) pa_nil)))) (pss_one (ps_ret pe_bl)) pss_nil)
      (pss_cons (ps_expr (pe_bmX (K := K) PySem.F.plainAttrs_list PySem.F.slot_list_append PySem.F.type_list_append mt_append (pv 3) (pa_cons pe_str pa_nil)))
      (pss_one (ps_if (PW.pt (pw_and (pt_cmpR oLt (pe_callB (call_lenX (K := K)) (by rfl) T.b_len (by decide +kernel) (pa_cons (pv 3) pa_nil)) pe_int (nomark _)) (pw_and1 (pt_not (pt_val (pe_cal c_law_right (hr.mono (by decide)) (by rfl) pass0 (pa_cons (pv 3) pa_nil))))))) (pss_one (ps_ret pe_bl)) pss_nil))))))))
      (pss_cons (ps_set (i := 4) sc_law_holds.nd rfl (by first | exact Or.inl rfl | exact Or.inr rfl) (pe_lst (pa_cons (pe_cal c_normal_form (hr.mono (by decide)) (by rfl) pass0 (pa_cons (pe_lst (pa_cons pe_str (pa_cons pe_str pa_nil))) pa_nil)) (pa_cons (pe_ix (ixX (K := K)) (pe_cal c_normal_form (hr.mono (by decide)) (by rfl) pass0 (pa_cons (pe_lst (pa_cons pe_str (pa_cons pe_str pa_nil))) pa_nil)) pe_int (fun _ _ => rfl)) (pa_cons (pe_ix (ixX (K := K)) (pe_cal c_normal_form (hr.mono (by decide)) (by rfl) pass0 (pa_cons (pe_lst (pa_cons pe_str pa_nil)) pa_nil)) pe_int (fun _ _ => rfl)) pa_nil)))))
      (pss_one (ps_ret (pe_and (pe_cmpR (oEq (K := K) hr.u65) (pv 4) (pe_lst (pa_cons pe_non (pa_cons (pe_tup (pa_cons (pe_tup (pa_cons pe_str (pa_cons pe_str pa_nil))) pa_nil)) (pa_cons (pe_tup (pa_cons pe_int pa_nil)) pa_nil)))) (nomark _)) (pe_one (pe_cmpR (oEq (K := K) hr.u65) (pe_cal c_normal_form (hr.mono (by decide)) (by rfl) pass0 (pa_cons (pe_lst pa_nil) pa_nil)) (pe_cal c_law_form (hr.mono (by decide)) (by rfl) pass0 (pa_cons (pe_lst pa_nil) pa_nil)) (nomark _)))))))), ?_⟩
  rw [show start ["source", "most", "lap", "row", "told"] [v_source, v_most] = [some v_source, some v_most, none, none, none] from rfl]
  try dsimp only [cxOf, Cx.nox, Cx.wish]
  obtain ⟨d, n, rfl, rfl, hn, hd, q⟩ := h
  walk_at "rd"
  refine rd_itR (by decide) (by decide) (fun i σ H' => Kp d H H' ∧ Dk d (500 * i) H' ∧ ∃ a b, σ = [some (.ref d), some (.int n), a, b, none])
    ⟨Kp.refl d H, hd, _, _, rfl⟩ ?_ ?_
  · rintro i σ H1 hi ⟨k1, d1, a, b, rfl⟩
    have hi' : i < 4 := by omega
    have bound : 500 * (i + 1) ≤ LIM := by unfold LIM; omega
    walk_at "rd"
    refine ⟨d, n, _, rfl, rfl, hn, d1, by omega, fun p ws H2 hp h2 hl hw d2 k2 => ?_⟩
    have np : p ≠ d := (d1.ne hp).symm
    have hp0 : H p = none := k1.free np hp
    have k12 := k1.trans k2
    walk_at "rd"
    refine ⟨p, ws, rfl, h2, by omega, hw, fun H3 k3 => ?_⟩
    walk_at "rd"
    refine rd_while (fun m σ H' => ∃ ws : List Wd, m = ws.length ∧ H' p = some (.lst (wsV ws)) ∧ ws.length ≤ 40 ∧ (∀ x ∈ ws, Wok x) ∧ Kp d H H' ∧ Dk d (500 * (i + 1)) H' ∧ σ = [some (.ref d), some (.int n), some (.int i), some (.ref p), none])
      ws.length ⟨ws, rfl, k3 _ _ h2, by omega, hw, k12.trans (Kp.of k3), (d2.same k3).mono (by omega), rfl⟩ ?_
    rintro m σ H4 ⟨ws, rfl, h4, hl, hw, k4, d4, rfl⟩
    walk_at "rd"
    refine ⟨p, ws, rfl, SqL.of h4, by omega, hw, fun H5 u k5 iu => ?_⟩
    walk_at "rd"
    rw [form_non iu]
    have h5 := k5 _ _ h4
    have kk5 := k4.trans (Kp.of k5)
    have d5 := d4.same k5
    cases ef : formS ws with
    | none =>
      refine rd_yesI rfl ?_
      refine rd_turn ?_
      walk_at "rd"
      refine rd_tyL (SqL.of h5) ?_
      obtain ⟨x, hx⟩ : ∃ x, ws.getLast? = some x := by
        cases e : ws.getLast? with
        | none =>
          rw [List.getLast?_eq_none_iff] at e
          rw [e] at ef
          exact absurd ef (by decide)
        | some x => exact ⟨x, rfl⟩
      have hlen : ws.length ≠ 0 := by
        intro e
        rw [List.length_eq_zero_iff] at e
        rw [e] at hx
        cases hx
      refine ⟨p, wsV ws, .str (wdS x), rfl, rfl, h5, ?_, ?_⟩
      · rw [wsV_len]
        unfold wsV
        rw [List.getElem?_map, ← List.getLast?_eq_getElem?, hx]
        rfl
      walk_at "rd"
      exact ⟨_, (by rw [List.length_dropLast]; omega : ws.dropLast.length < ws.length), ws.dropLast, rfl, by rw [wsV_drop]; exact upd_same, by rw [List.length_dropLast]; omega, fun y hy => hw y (List.dropLast_subset _ hy), kk5.put hp0, d5.put np.symm, rfl⟩
    | some f =>
      refine rd_noI rfl ?_
      walk_at "rd"
      refine ⟨p, ws, rfl, h5, by omega, hw, fun H6 k6 => ?_⟩
      have h6 := k6 _ _ h5
      walk_at "rd"
      refine rd_tyL (SqL.of h6) ?_
      walk_at "rd"
      refine rd_app h6 (szLt (by rw [wsV_len]; omega)) ?_
      have e12 : V.str "1>&2" = V.str (wdS (.copy 2 1)) := congrArg V.str (by decide +kernel)
      have ew : wsV ws ++ [V.str "1>&2"] = wsV (ws ++ [.copy 2 1]) := by rw [wsV_snoc, e12]
      rw [ew]
      have kk7 := (kk5.trans (Kp.of k6)).put (o := .lst (wsV (ws ++ [.copy 2 1]))) hp0
      have d7 := (d5.same k6).put (o := .lst (wsV (ws ++ [.copy 2 1]))) np.symm
      walk_at "rd"
      refine rd_lenL (SqL.of upd_same) ?_
      walk_at "rd"
      refine rd_ite (fun hc => ?_) (fun hc => ?_)
      · have hc := of_decide_eq_true hc
        rw [wsV_len] at hc
        walk_at "rd"
        refine ⟨p, ws ++ [.copy 2 1], rfl, upd_same, by omega, ?_, fun H8 k8 => ?_⟩
        · intro x hx
          rcases List.mem_append.mp hx with h | h
          · exact hw x h
          · rw [List.mem_singleton.mp h]; exact ⟨by decide, by decide⟩
        walk_at "rd"
        exact ⟨kk7.trans (Kp.of k8), d7.same k8, _, _, rfl⟩
      · walk_at "rd"
        exact ⟨kk7, d7, _, _, rfl⟩
  · rintro σ H1 ⟨k1, d1, a, b, rfl⟩
    walk_at "rd"
    intro l1 hl1
    walk_at "rd"
    refine ⟨l1, [.close 1, .copy 1 2], rfl, by rw [upd_same]; exact congrArg (fun x => some (HO.lst x)) (by decide +kernel), by decide, wok_of (by decide), fun H2 u1 k2 i1 => ?_⟩
    have f1 : formS [.close 1, .copy 1 2] = none := by decide
    rw [f1] at i1
    obtain rfl := i1.n
    walk_at "rd"
    intro l2 hl2
    walk_at "rd"
    refine ⟨l2, [.opn 1 62 [102], .copy 1 2], rfl, by rw [upd_same]; exact congrArg (fun x => some (HO.lst x)) (by decide +kernel), by decide, wok_of (by decide), fun H3 u2 k3 i2 => ?_⟩
    have f2 : formS [.opn 1 62 [102], .copy 1 2] = some ([], [(62, [102])], (play olds [] [.opn 1 62 [102], .copy 1 2]).1) := by decide
    rw [f2] at i2
    obtain ⟨t2, a2, b2, c2, rfl, g2, _, ib2, _⟩ := i2.t3
    walk_at "rd"
    refine rd_ixT (SqT.of g2) rfl ?_
    walk_at "rd"
    intro l3 hl3
    walk_at "rd"
    refine ⟨l3, [.copy 3 3], rfl, by rw [upd_same]; exact congrArg (fun x => some (HO.lst x)) (by decide +kernel), by decide, wok_of (by decide), fun H4 u3 k4 i3 => ?_⟩
    have f3 : formS [.copy 3 3] = some ([3], [], (play olds [] [.copy 3 3]).1) := by decide
    rw [f3] at i3
    obtain ⟨t3, a3, b3, c3, rfl, g3, ia3, _, _⟩ := i3.t3
    walk_at "rd"
    refine rd_ixT (SqT.of g3) rfl ?_
    walk_at "rd"
    intro l4 hl4
    walk_at "rd"
    intro p1 hp1
    walk_at "rd"
    intro p2 hp2
    walk_at "rd"
    intro p3 hp3
    walk_at "rd"
    intro p4 hp4
    walk_at "rd"
    have k34 : Same H3 H4 := Same.trans (Same.new (Same.refl H3) hl3) k4
    have s12 : Same H1 H3 := Same.trans (Same.trans (Same.new (Same.refl H1) hl1) k2) (Same.trans (Same.new (Same.refl H2) hl2) k3)
    have k5 := (Same.refl H4).new (o := .lst [.non, b2, a3]) hl4
    have k6 := k5.new (o := .tup [.str ">", .str "f"]) hp1
    have k7 := k6.new (o := .tup [.ref p1]) hp2
    have k8 := k7.new (o := .tup [.int 3]) hp3
    have k9 := k8.new (o := (.lst [.non, .ref p2, .ref p3])) hp4
    have e3 := ((Same.refl _).new (o := (.lst [.non, .ref p2, .ref p3])) hp4) p3 _ upd_same
    have e2 := (((Same.refl _).new (o := .tup [.int 3]) hp3).new (o := (.lst [.non, .ref p2, .ref p3])) hp4) p2 _ upd_same
    have e1 := ((((Same.refl _).new (o := .tup [.ref p1]) hp2).new (o := .tup [.int 3]) hp3).new (o := (.lst [.non, .ref p2, .ref p3])) hp4) p1 _ upd_same
    have e0 := (((((Same.refl _).new (o := .tup [.str ">", .str "f"]) hp1).new (o := .tup [.ref p1]) hp2).new (o := .tup [.int 3]) hp3).new (o := (.lst [.non, .ref p2, .ref p3])) hp4) l4 _ upd_same
    refine rd_eqD (d := .list [.none, .tuple (opAll [(62, [102])]), nsD [3]]) (e := .list [.none, .tuple [.tuple [.str ">", .str "f"]], .tuple [.int 3]]) (.lst (SqL.of e0) (.cons .non (.cons (ib2.up (Tp.of (k34.trans k9))).to (.cons (ia3.up (Tp.of k9)).to .nil))))
      (.lst (SqL.of upd_same) (.cons .non (.cons (Im.mk1 e2 (Im.mk2 e1 (.str _) (.str _))).to (.cons (Im.mk1 e3 (.int _)).to .nil)))) (by decide +kernel) (by decide +kernel) ?_
    have ev : PyData.eqv (.list [.none, .tuple (opAll [(62, [102])]), nsD [3]]) (.list [.none, .tuple [.tuple [.str ">", .str "f"]], .tuple [.int 3]]) = true := by decide +kernel
    rw [ev]
    walk_at "rd"
    intro l5 hl5
    walk_at "rd"
    refine ⟨l5, [], rfl, upd_same, by decide, (fun _ h => nomatch h), fun H5 u5 k10 i5 => ?_⟩
    walk_at "rd"
    intro l6 hl6
    walk_at "rd"
    refine ⟨l6, [], rfl, SqL.of upd_same, by decide, (fun _ h => nomatch h), fun H6 u6 k11 i6 => ?_⟩
    have s56 : Same H5 H6 := Same.trans (Same.new (Same.refl H5) hl6) k11
    walk_at "rd"
    refine rd_eqD (i5.up (Tp.of s56)).to i6.to (by decide +kernel) (by decide +kernel) ?_
    have ev2 : PyData.eqv (formD (formS [])) (formD (formS [])) = true := by decide +kernel
    rw [ev2]
    have s45 : Same H4 H5 := Same.trans (Same.new k9 hl5) k10
    exact q H6 (k1.trans (Kp.of ((s12.trans k34).trans (s45.trans s56))))
def Φ_law (K : PySem.W.Frag) (v : V) (H : Hp) (Q : VK) : Prop := ∃ (a : Addr) (ns : List Int), v = .ref a ∧ SqL K H a (ns.map V.int) ∧ ns.length ≤ 63 ∧ ∀ H', Q (.bl true) H'
theorem ok_law (T : Txt K mg) {f : Addr} {fd : FuncData} (F : Fun K "law" "law" s_law f fd) : Keeps P w K mg base CX0 9 f fd ["script"] (sp1 (Φ_law K)) := by
  have c_law_holds := cal (P := P) (w := w) (base := base) T.d_law_holds fun F => ok_law_holds T F
  have c_law_source := cal (P := P) (w := w) (base := base) T.d_law_source fun F => ok_law_source T F
  refine keeps0_of F sc_law (fun vs H Q E h => ?_) (fun cdv A outer s H vs Q E hr h => ?_)
  · obtain ⟨_, rfl, _⟩ := h
    rfl
  obtain ⟨v_script, rfl, h⟩ := h
  have hu := hr.hu
  refine ⟨_, (pss_cons (ps_for PassesOwn.never rfl (pi_enumX (K := K) (by rfl) T.b_enumerate (pa_cons (pe_slice (sX (K := K)) (pe_op (oAdd (K := K)) (pv 0) (pe_lst (pa_cons pe_int pa_nil))) po_none (po_some (pe_callB (call_maxX rfl) (by rfl) T.b_max (by decide +kernel) (pa_cons pe_int (pa_cons (pe_callB (call_minX rfl) (by rfl) T.b_min (by decide +kernel) (pa_cons (pe_callB (call_lenX (K := K)) (by rfl) T.b_len (by decide +kernel) (pa_cons (pv 0) pa_nil)) (pa_cons pe_int pa_nil))) pa_nil))))) pa_nil)) (pg_seqX (K := K) rfl (pgs_cons (pg_name (i := 1) sc_law.nd rfl (by first | exact Or.inl rfl | exact Or.inr rfl)) (pgs_cons (pg_name (i := 2) sc_law.nd rfl (by first | exact Or.inl rfl | exact Or.inr rfl)) pgs_nil))) (pss_one (ps_if (pt_not (pt_val (pe_cal c_law_holds (hr.mono (by decide)) (by rfl) pass0 (pa_cons (pe_cal c_law_source (hr.mono (by decide)) (by rfl) pass0 (pa_cons (pv 2) (pa_cons (pv 1) pa_nil))) (pa_cons (pe_ifExp (pt_cmpR (oEq (K := K) hr.u65) (pv 0) (pe_lst pa_nil) (nomark _)) pe_int pe_int) pa_nil))))) (pss_one (ps_ret pe_bl)) pss_nil)))
      (pss_one (ps_ret pe_bl))), ?_⟩
  rw [show start ["script", "k", "cell"] [v_script] = [some v_script, none, none] from rfl]
  try dsimp only [cxOf, Cx.nox, Cx.wish]
  obtain ⟨a, ns, rfl, hS, hl, q⟩ := h
  walk_at "rd"
  intro z hz
  refine rd_catS (((Same.refl H).new hz).seq hS) (SqL.of upd_same) (szOk (by rw [List.length_map]; show ns.length + 1 ≤ _; omega)) fun c hc => ?_
  have k1 := ((Same.refl H).new (o := .lst [V.int 0]) hz).new (o := .lst (ns.map V.int ++ [V.int 0])) hc
  walk_at "rd"
  refine rd_lenL (k1.seq hS) ?_
  walk_at "rd"
  obtain ⟨j, hj⟩ : ∃ j : Nat, max 1 (min ((ns.map V.int).length : Int) 10) = (j : Int) := ⟨(max 1 (min ((ns.map V.int).length : Int) 10)).toNat, by omega⟩
  rw [hj]
  walk_at "rd"
  refine rd_slL (SqL.of upd_same) fun e he => ?_
  have k2 := k1.new (o := .lst (cutV (ns.map V.int ++ [V.int 0]) none (some (j : Int)))) he
  rw [cutV_take] at k2 ⊢
  walk_at "rd"
  have nsAt : ∀ i x, ((ns.map V.int ++ [V.int 0]).take j)[i]? = some x → i < 64 ∧ ∃ y, x = V.int y := by
    intro i x hx
    have hm := List.mem_of_mem_take (List.mem_of_getElem? hx)
    refine ⟨?_, ?_⟩
    · have l := (List.getElem?_eq_some_iff.mp hx).1
      rw [List.length_take, List.length_append, List.length_map] at l
      simp at l
      omega
    · rcases List.mem_append.mp hm with h | h
      · obtain ⟨y, _, rfl⟩ := List.mem_map.mp h; exact ⟨y, rfl⟩
      · exact ⟨0, List.mem_singleton.mp h⟩
  refine rd_itE (xs := (ns.map V.int ++ [V.int 0]).take j) (SqL.of upd_same) (fun i σ H' => Same (upd (upd (upd H z (.lst [V.int 0])) c (.lst (ns.map V.int ++ [V.int 0]))) e (.lst ((ns.map V.int ++ [V.int 0]).take j))) H' ∧ ∃ u v, σ = [some (.ref a), u, v]) ⟨Same.refl _, _, _, rfl⟩ ?_ ?_ ?_
  · rintro i σ H' _ ⟨k, _⟩
    exact SqL.of (k _ _ upd_same)
  · rintro i x T σ H1 hi ⟨k3, u, v, rfl⟩ hT
    obtain ⟨hi64, y, rfl⟩ := nsAt i x hi
    refine rd_gtup (SqT.of upd_same) rfl ?_
    have k4 := k3.new (o := .tup [V.int (i : Int), V.int y]) hT
    walk_at "rd"
    refine ⟨y, i, rfl, rfl, by omega, by omega, fun d H2 hd d2 k5 => ?_⟩
    walk_at "rd"
    intro n hn
    have k6 := (k2.trans (k4.trans k5)).new (o := .lst []) hn
    refine rd_eqNil (k6.seq hS) (SqL.of upd_same) ?_
    walk_at "rd"
    have fin : ∀ H3, Kp d (upd H2 n (.lst [])) H3 → Same (upd (upd (upd H z (.lst [V.int 0])) c (.lst (ns.map V.int ++ [V.int 0]))) e (.lst ((ns.map V.int ++ [V.int 0]).take j))) H3 := by
      intro H3 k7 b o hb
      have h1 := k4 _ _ hb
      have h2 := k5 _ _ h1
      refine k7 _ _ (ne_of_none h1 hd) ?_
      rw [upd_ne (ne_of_none h2 hn)]
      exact h2
    refine rd_ite (fun _ => ?_) (fun _ => ?_)
    · walk_at "rd"
      refine ⟨d, 4, rfl, rfl, by omega, d2.new hn, fun H3 k7 => ?_⟩
      walk_at "rd"
      exact ⟨fin H3 k7, _, _, rfl⟩
    · walk_at "rd"
      refine ⟨d, 40, rfl, rfl, by omega, d2.new hn, fun H3 k7 => ?_⟩
      walk_at "rd"
      exact ⟨fin H3 k7, _, _, rfl⟩
  · rintro σ H1 ⟨k3, u, v, rfl⟩
    walk_at "rd"
    exact q H1
end
/-- the facts of the top -/
theorem all_mk {K : PySem.W.Frag} {h : Heap} {mg : Str → Option Value} (X : K.In h) (G : h.Ns mainGlobals mg)
    {u_NUMBERS u_LETTERS u_MOST_LETTERS u_DIGITS u_MOST_WORDS : Value}
    (h_NUMBERS : PySem.W.nsIn K mainGlobals "NUMBERS" = some (some u_NUMBERS)) (r_NUMBERS : RelV (.int 10) u_NUMBERS)
    (h_LETTERS : PySem.W.nsIn K mainGlobals "LETTERS" = some (some u_LETTERS)) (r_LETTERS : RelV (.str "abcdefghijklmnopqrstuvwxyz") u_LETTERS)
    (h_MOST_LETTERS : PySem.W.nsIn K mainGlobals "MOST_LETTERS" = some (some u_MOST_LETTERS)) (r_MOST_LETTERS : RelV (.int 8) u_MOST_LETTERS)
    (h_DIGITS : PySem.W.nsIn K mainGlobals "DIGITS" = some (some u_DIGITS)) (r_DIGITS : RelV (.str "0123456789") u_DIGITS)
    (h_MOST_WORDS : PySem.W.nsIn K mainGlobals "MOST_WORDS" = some (some u_MOST_WORDS)) (r_MOST_WORDS : RelV (.int 40) u_MOST_WORDS)
    {f_is_name : Addr} {od_is_name an_is_name : Option Addr} {sl_is_name : Array (Option Value)} {oc_is_name kV_is_name dc_is_name pm_is_name cd_is_name ct_is_name : Value}
    (a_is_name : PySem.W.nsIn K mainGlobals "is_name" = some (some (.ref f_is_name))) (l_is_name : K.lookup f_is_name = some ⟨oc_is_name, od_is_name, .func (PySem.W.fnOf "is_name" "is_name" (defArgs s_is_name) (defBody s_is_name) (defScope s_is_name) .none kV_is_name dc_is_name pm_is_name an_is_name cd_is_name ct_is_name), sl_is_name⟩) (c_is_name : PySem.W.codeIn K cd_is_name "is_name" = true) (k_is_name : PySem.W.keepIn K (.ref f_is_name) = true)
    {f_parts_of : Addr} {od_parts_of an_parts_of : Option Addr} {sl_parts_of : Array (Option Value)} {oc_parts_of kV_parts_of dc_parts_of pm_parts_of cd_parts_of ct_parts_of : Value}
    (a_parts_of : PySem.W.nsIn K mainGlobals "parts_of" = some (some (.ref f_parts_of))) (l_parts_of : K.lookup f_parts_of = some ⟨oc_parts_of, od_parts_of, .func (PySem.W.fnOf "parts_of" "parts_of" (defArgs s_parts_of) (defBody s_parts_of) (defScope s_parts_of) .none kV_parts_of dc_parts_of pm_parts_of an_parts_of cd_parts_of ct_parts_of), sl_parts_of⟩) (c_parts_of : PySem.W.codeIn K cd_parts_of "parts_of" = true) (k_parts_of : PySem.W.keepIn K (.ref f_parts_of) = true)
    {f_is_word : Addr} {od_is_word an_is_word : Option Addr} {sl_is_word : Array (Option Value)} {oc_is_word kV_is_word dc_is_word pm_is_word cd_is_word ct_is_word : Value}
    (a_is_word : PySem.W.nsIn K mainGlobals "is_word" = some (some (.ref f_is_word))) (l_is_word : K.lookup f_is_word = some ⟨oc_is_word, od_is_word, .func (PySem.W.fnOf "is_word" "is_word" (defArgs s_is_word) (defBody s_is_word) (defScope s_is_word) .none kV_is_word dc_is_word pm_is_word an_is_word cd_is_word ct_is_word), sl_is_word⟩) (c_is_word : PySem.W.codeIn K cd_is_word "is_word" = true) (k_is_word : PySem.W.keepIn K (.ref f_is_word) = true)
    {f_check_words : Addr} {od_check_words an_check_words : Option Addr} {sl_check_words : Array (Option Value)} {oc_check_words kV_check_words dc_check_words pm_check_words cd_check_words ct_check_words : Value}
    (a_check_words : PySem.W.nsIn K mainGlobals "check_words" = some (some (.ref f_check_words))) (l_check_words : K.lookup f_check_words = some ⟨oc_check_words, od_check_words, .func (PySem.W.fnOf "check_words" "check_words" (defArgs s_check_words) (defBody s_check_words) (defScope s_check_words) .none kV_check_words dc_check_words pm_check_words an_check_words cd_check_words ct_check_words), sl_check_words⟩) (c_check_words : PySem.W.codeIn K cd_check_words "check_words" = true) (k_check_words : PySem.W.keepIn K (.ref f_check_words) = true)
    {f_row_behind : Addr} {od_row_behind an_row_behind : Option Addr} {sl_row_behind : Array (Option Value)} {oc_row_behind kV_row_behind dc_row_behind pm_row_behind cd_row_behind ct_row_behind : Value}
    (a_row_behind : PySem.W.nsIn K mainGlobals "row_behind" = some (some (.ref f_row_behind))) (l_row_behind : K.lookup f_row_behind = some ⟨oc_row_behind, od_row_behind, .func (PySem.W.fnOf "row_behind" "row_behind" (defArgs s_row_behind) (defBody s_row_behind) (defScope s_row_behind) .none kV_row_behind dc_row_behind pm_row_behind an_row_behind cd_row_behind ct_row_behind), sl_row_behind⟩) (c_row_behind : PySem.W.codeIn K cd_row_behind "row_behind" = true) (k_row_behind : PySem.W.keepIn K (.ref f_row_behind) = true)
    {f_needs_of : Addr} {od_needs_of an_needs_of : Option Addr} {sl_needs_of : Array (Option Value)} {oc_needs_of kV_needs_of dc_needs_of pm_needs_of cd_needs_of ct_needs_of : Value}
    (a_needs_of : PySem.W.nsIn K mainGlobals "needs_of" = some (some (.ref f_needs_of))) (l_needs_of : K.lookup f_needs_of = some ⟨oc_needs_of, od_needs_of, .func (PySem.W.fnOf "needs_of" "needs_of" (defArgs s_needs_of) (defBody s_needs_of) (defScope s_needs_of) .none kV_needs_of dc_needs_of pm_needs_of an_needs_of cd_needs_of ct_needs_of), sl_needs_of⟩) (c_needs_of : PySem.W.codeIn K cd_needs_of "needs_of" = true) (k_needs_of : PySem.W.keepIn K (.ref f_needs_of) = true)
    {f_form_of : Addr} {od_form_of an_form_of : Option Addr} {sl_form_of : Array (Option Value)} {oc_form_of kV_form_of dc_form_of pm_form_of cd_form_of ct_form_of : Value}
    (a_form_of : PySem.W.nsIn K mainGlobals "form_of" = some (some (.ref f_form_of))) (l_form_of : K.lookup f_form_of = some ⟨oc_form_of, od_form_of, .func (PySem.W.fnOf "form_of" "form_of" (defArgs s_form_of) (defBody s_form_of) (defScope s_form_of) .none kV_form_of dc_form_of pm_form_of an_form_of cd_form_of ct_form_of), sl_form_of⟩) (c_form_of : PySem.W.codeIn K cd_form_of "form_of" = true) (k_form_of : PySem.W.keepIn K (.ref f_form_of) = true)
    {f_normal_form : Addr} {od_normal_form an_normal_form : Option Addr} {sl_normal_form : Array (Option Value)} {oc_normal_form kV_normal_form dc_normal_form pm_normal_form cd_normal_form ct_normal_form : Value}
    (a_normal_form : PySem.W.nsIn K mainGlobals "normal_form" = some (some (.ref f_normal_form))) (l_normal_form : K.lookup f_normal_form = some ⟨oc_normal_form, od_normal_form, .func (PySem.W.fnOf "normal_form" "normal_form" (defArgs s_normal_form) (defBody s_normal_form) (defScope s_normal_form) .none kV_normal_form dc_normal_form pm_normal_form an_normal_form cd_normal_form ct_normal_form), sl_normal_form⟩) (c_normal_form : PySem.W.codeIn K cd_normal_form "normal_form" = true) (k_normal_form : PySem.W.keepIn K (.ref f_normal_form) = true)
    {f_law_source : Addr} {od_law_source an_law_source : Option Addr} {sl_law_source : Array (Option Value)} {oc_law_source kV_law_source dc_law_source pm_law_source cd_law_source ct_law_source : Value}
    (a_law_source : PySem.W.nsIn K mainGlobals "_law_source" = some (some (.ref f_law_source))) (l_law_source : K.lookup f_law_source = some ⟨oc_law_source, od_law_source, .func (PySem.W.fnOf "_law_source" "_law_source" (defArgs s_law_source) (defBody s_law_source) (defScope s_law_source) .none kV_law_source dc_law_source pm_law_source an_law_source cd_law_source ct_law_source), sl_law_source⟩) (c_law_source : PySem.W.codeIn K cd_law_source "_law_source" = true) (k_law_source : PySem.W.keepIn K (.ref f_law_source) = true)
    {f_law_draw : Addr} {od_law_draw an_law_draw : Option Addr} {sl_law_draw : Array (Option Value)} {oc_law_draw kV_law_draw dc_law_draw pm_law_draw cd_law_draw ct_law_draw : Value}
    (a_law_draw : PySem.W.nsIn K mainGlobals "_law_draw" = some (some (.ref f_law_draw))) (l_law_draw : K.lookup f_law_draw = some ⟨oc_law_draw, od_law_draw, .func (PySem.W.fnOf "_law_draw" "_law_draw" (defArgs s_law_draw) (defBody s_law_draw) (defScope s_law_draw) .none kV_law_draw dc_law_draw pm_law_draw an_law_draw cd_law_draw ct_law_draw), sl_law_draw⟩) (c_law_draw : PySem.W.codeIn K cd_law_draw "_law_draw" = true) (k_law_draw : PySem.W.keepIn K (.ref f_law_draw) = true)
    {f_law_word_here : Addr} {od_law_word_here an_law_word_here : Option Addr} {sl_law_word_here : Array (Option Value)} {oc_law_word_here kV_law_word_here dc_law_word_here pm_law_word_here cd_law_word_here ct_law_word_here : Value}
    (a_law_word_here : PySem.W.nsIn K mainGlobals "_law_word_here" = some (some (.ref f_law_word_here))) (l_law_word_here : K.lookup f_law_word_here = some ⟨oc_law_word_here, od_law_word_here, .func (PySem.W.fnOf "_law_word_here" "_law_word_here" (defArgs s_law_word_here) (defBody s_law_word_here) (defScope s_law_word_here) .none kV_law_word_here dc_law_word_here pm_law_word_here an_law_word_here cd_law_word_here ct_law_word_here), sl_law_word_here⟩) (c_law_word_here : PySem.W.codeIn K cd_law_word_here "_law_word_here" = true) (k_law_word_here : PySem.W.keepIn K (.ref f_law_word_here) = true)
    {f_law_some_words : Addr} {od_law_some_words an_law_some_words : Option Addr} {sl_law_some_words : Array (Option Value)} {oc_law_some_words kV_law_some_words dc_law_some_words pm_law_some_words cd_law_some_words ct_law_some_words : Value}
    (a_law_some_words : PySem.W.nsIn K mainGlobals "_law_some_words" = some (some (.ref f_law_some_words))) (l_law_some_words : K.lookup f_law_some_words = some ⟨oc_law_some_words, od_law_some_words, .func (PySem.W.fnOf "_law_some_words" "_law_some_words" (defArgs s_law_some_words) (defBody s_law_some_words) (defScope s_law_some_words) .none kV_law_some_words dc_law_some_words pm_law_some_words an_law_some_words cd_law_some_words ct_law_some_words), sl_law_some_words⟩) (c_law_some_words : PySem.W.codeIn K cd_law_some_words "_law_some_words" = true) (k_law_some_words : PySem.W.keepIn K (.ref f_law_some_words) = true)
    {f_law_played : Addr} {od_law_played an_law_played : Option Addr} {sl_law_played : Array (Option Value)} {oc_law_played kV_law_played dc_law_played pm_law_played cd_law_played ct_law_played : Value}
    (a_law_played : PySem.W.nsIn K mainGlobals "_law_played" = some (some (.ref f_law_played))) (l_law_played : K.lookup f_law_played = some ⟨oc_law_played, od_law_played, .func (PySem.W.fnOf "_law_played" "_law_played" (defArgs s_law_played) (defBody s_law_played) (defScope s_law_played) .none kV_law_played dc_law_played pm_law_played an_law_played cd_law_played ct_law_played), sl_law_played⟩) (c_law_played : PySem.W.codeIn K cd_law_played "_law_played" = true) (k_law_played : PySem.W.keepIn K (.ref f_law_played) = true)
    {f_law_form : Addr} {od_law_form an_law_form : Option Addr} {sl_law_form : Array (Option Value)} {oc_law_form kV_law_form dc_law_form pm_law_form cd_law_form ct_law_form : Value}
    (a_law_form : PySem.W.nsIn K mainGlobals "_law_form" = some (some (.ref f_law_form))) (l_law_form : K.lookup f_law_form = some ⟨oc_law_form, od_law_form, .func (PySem.W.fnOf "_law_form" "_law_form" (defArgs s_law_form) (defBody s_law_form) (defScope s_law_form) .none kV_law_form dc_law_form pm_law_form an_law_form cd_law_form ct_law_form), sl_law_form⟩) (c_law_form : PySem.W.codeIn K cd_law_form "_law_form" = true) (k_law_form : PySem.W.keepIn K (.ref f_law_form) = true)
    {f_law_right : Addr} {od_law_right an_law_right : Option Addr} {sl_law_right : Array (Option Value)} {oc_law_right kV_law_right dc_law_right pm_law_right cd_law_right ct_law_right : Value}
    (a_law_right : PySem.W.nsIn K mainGlobals "_law_right" = some (some (.ref f_law_right))) (l_law_right : K.lookup f_law_right = some ⟨oc_law_right, od_law_right, .func (PySem.W.fnOf "_law_right" "_law_right" (defArgs s_law_right) (defBody s_law_right) (defScope s_law_right) .none kV_law_right dc_law_right pm_law_right an_law_right cd_law_right ct_law_right), sl_law_right⟩) (c_law_right : PySem.W.codeIn K cd_law_right "_law_right" = true) (k_law_right : PySem.W.keepIn K (.ref f_law_right) = true)
    {f_law_holds : Addr} {od_law_holds an_law_holds : Option Addr} {sl_law_holds : Array (Option Value)} {oc_law_holds kV_law_holds dc_law_holds pm_law_holds cd_law_holds ct_law_holds : Value}
    (a_law_holds : PySem.W.nsIn K mainGlobals "_law_holds" = some (some (.ref f_law_holds))) (l_law_holds : K.lookup f_law_holds = some ⟨oc_law_holds, od_law_holds, .func (PySem.W.fnOf "_law_holds" "_law_holds" (defArgs s_law_holds) (defBody s_law_holds) (defScope s_law_holds) .none kV_law_holds dc_law_holds pm_law_holds an_law_holds cd_law_holds ct_law_holds), sl_law_holds⟩) (c_law_holds : PySem.W.codeIn K cd_law_holds "_law_holds" = true) (k_law_holds : PySem.W.keepIn K (.ref f_law_holds) = true)
    {f_law : Addr} {od_law an_law : Option Addr} {sl_law : Array (Option Value)} {oc_law kV_law dc_law pm_law cd_law ct_law : Value}
    (a_law : PySem.W.nsIn K mainGlobals "law" = some (some (.ref f_law))) (l_law : K.lookup f_law = some ⟨oc_law, od_law, .func (PySem.W.fnOf "law" "law" (defArgs s_law) (defBody s_law) (defScope s_law) .none kV_law dc_law pm_law an_law cd_law ct_law), sl_law⟩) (c_law : PySem.W.codeIn K cd_law "law" = true) (k_law : PySem.W.keepIn K (.ref f_law) = true)
    (z_all : PySem.W.nsIn K mainGlobals "all" = some none)
    (z_enumerate : PySem.W.nsIn K mainGlobals "enumerate" = some none)
    (z_int : PySem.W.nsIn K mainGlobals "int" = some none)
    (z_isinstance : PySem.W.nsIn K mainGlobals "isinstance" = some none)
    (z_len : PySem.W.nsIn K mainGlobals "len" = some none)
    (z_list : PySem.W.nsIn K mainGlobals "list" = some none)
    (z_max : PySem.W.nsIn K mainGlobals "max" = some none)
    (z_min : PySem.W.nsIn K mainGlobals "min" = some none)
    (z_range : PySem.W.nsIn K mainGlobals "range" = some none)
    (z_repr : PySem.W.nsIn K mainGlobals "repr" = some none)
    (z_sorted : PySem.W.nsIn K mainGlobals "sorted" = some none)
    (z_str : PySem.W.nsIn K mainGlobals "str" = some none)
    (z_tuple : PySem.W.nsIn K mainGlobals "tuple" = some none)
    : Txt K mg where
  c_NUMBERS := ⟨_, PySem.W.mg_of X G h_NUMBERS, r_NUMBERS⟩
  c_LETTERS := ⟨_, PySem.W.mg_of X G h_LETTERS, r_LETTERS⟩
  c_MOST_LETTERS := ⟨_, PySem.W.mg_of X G h_MOST_LETTERS, r_MOST_LETTERS⟩
  c_DIGITS := ⟨_, PySem.W.mg_of X G h_DIGITS, r_DIGITS⟩
  c_MOST_WORDS := ⟨_, PySem.W.mg_of X G h_MOST_WORDS, r_MOST_WORDS⟩
  d_is_name := .mk (st := s_is_name) l_is_name c_is_name k_is_name (PySem.W.mg_of X G a_is_name) (fun _ _ _ _ _ _ us hl => match us, hl with | [_], _ => rfl)
  d_parts_of := .mk (st := s_parts_of) l_parts_of c_parts_of k_parts_of (PySem.W.mg_of X G a_parts_of) (fun _ _ _ _ _ _ us hl => match us, hl with | [_], _ => rfl)
  d_is_word := .mk (st := s_is_word) l_is_word c_is_word k_is_word (PySem.W.mg_of X G a_is_word) (fun _ _ _ _ _ _ us hl => match us, hl with | [_], _ => rfl)
  d_check_words := .mk (st := s_check_words) l_check_words c_check_words k_check_words (PySem.W.mg_of X G a_check_words) (fun _ _ _ _ _ _ us hl => match us, hl with | [_], _ => rfl)
  d_row_behind := .mk (st := s_row_behind) l_row_behind c_row_behind k_row_behind (PySem.W.mg_of X G a_row_behind) (fun _ _ _ _ _ _ us hl => match us, hl with | [_, _], _ => rfl)
  d_needs_of := .mk (st := s_needs_of) l_needs_of c_needs_of k_needs_of (PySem.W.mg_of X G a_needs_of) (fun _ _ _ _ _ _ us hl => match us, hl with | [_], _ => rfl)
  d_form_of := .mk (st := s_form_of) l_form_of c_form_of k_form_of (PySem.W.mg_of X G a_form_of) (fun _ _ _ _ _ _ us hl => match us, hl with | [_], _ => rfl)
  d_normal_form := .mk (st := s_normal_form) l_normal_form c_normal_form k_normal_form (PySem.W.mg_of X G a_normal_form) (fun _ _ _ _ _ _ us hl => match us, hl with | [_], _ => rfl)
  d_law_source := .mk (st := s_law_source) l_law_source c_law_source k_law_source (PySem.W.mg_of X G a_law_source) (fun _ _ _ _ _ _ us hl => match us, hl with | [_, _], _ => rfl)
  d_law_draw := .mk (st := s_law_draw) l_law_draw c_law_draw k_law_draw (PySem.W.mg_of X G a_law_draw) (fun _ _ _ _ _ _ us hl => match us, hl with | [_, _], _ => rfl)
  d_law_word_here := .mk (st := s_law_word_here) l_law_word_here c_law_word_here k_law_word_here (PySem.W.mg_of X G a_law_word_here) (fun _ _ _ _ _ _ us hl => match us, hl with | [_, _], _ => rfl)
  d_law_some_words := .mk (st := s_law_some_words) l_law_some_words c_law_some_words k_law_some_words (PySem.W.mg_of X G a_law_some_words) (fun _ _ _ _ _ _ us hl => match us, hl with | [_, _], _ => rfl)
  d_law_played := .mk (st := s_law_played) l_law_played c_law_played k_law_played (PySem.W.mg_of X G a_law_played) (fun _ _ _ _ _ _ us hl => match us, hl with | [_, _], _ => rfl)
  d_law_form := .mk (st := s_law_form) l_law_form c_law_form k_law_form (PySem.W.mg_of X G a_law_form) (fun _ _ _ _ _ _ us hl => match us, hl with | [_], _ => rfl)
  d_law_right := .mk (st := s_law_right) l_law_right c_law_right k_law_right (PySem.W.mg_of X G a_law_right) (fun _ _ _ _ _ _ us hl => match us, hl with | [_], _ => rfl)
  d_law_holds := .mk (st := s_law_holds) l_law_holds c_law_holds k_law_holds (PySem.W.mg_of X G a_law_holds) (fun _ _ _ _ _ _ us hl => match us, hl with | [_, _], _ => rfl)
  d_law := .mk (st := s_law) l_law c_law k_law (PySem.W.mg_of X G a_law) (fun _ _ _ _ _ _ us hl => match us, hl with | [_], _ => rfl)
  b_all := PySem.W.mg_none_of X G z_all
  b_enumerate := PySem.W.mg_none_of X G z_enumerate
  b_int := PySem.W.mg_none_of X G z_int
  b_isinstance := PySem.W.mg_none_of X G z_isinstance
  b_len := PySem.W.mg_none_of X G z_len
  b_list := PySem.W.mg_none_of X G z_list
  b_max := PySem.W.mg_none_of X G z_max
  b_min := PySem.W.mg_none_of X G z_min
  b_range := PySem.W.mg_none_of X G z_range
  b_repr := PySem.W.mg_none_of X G z_repr
  b_sorted := PySem.W.mg_none_of X G z_sorted
  b_str := PySem.W.mg_none_of X G z_str
  b_tuple := PySem.W.mg_none_of X G z_tuple
theorem walk {l : PySem.W.OpenLaw} {q : Program} {loose : List Str} {XP : (Str → Option Value) → Heap → Prop} {YP : World → Heap → Prop} {d : DefRec} {K : Params → PySem.W.Frag} (hn : l.most = some 63) (hdf : d.params.defaults = []) (hdn : d.name = "law")
    (hY : ∀ (w : World) (h : Heap), YP w h → (K w.params).In h) (F : ∀ (w : World) (mg : Str → Option Value) (h : Heap), (K w.params).In h → h.Ns mainGlobals mg → Txt (K w.params) mg) :
    PySem.W.WalkO q loose XP YP l.row.toRowW d [] (fun f vs => PySem.call f vs) := by
  refine walk_keeps (n := 63) (k := 9) (x := "script") (sp := fun w => sp1 (Φ_law (K w.params))) hn (by decide) hdf ⟨rfl, by decide, by decide⟩ hY ?_ ?_
  · intro w mg fa h KX G hmg
    have T := F w mg h KX G
    obtain ⟨f, fd, F1, hm, B, KB⟩ := T.d_law
    rw [hdn] at hmg
    obtain rfl : f = fa := Value.ref.inj (Option.some.inj (hm.symm.trans hmg))
    exact ⟨fd, fun s u => KB s [u] rfl, fun base _ _ => ok_law T F1⟩
  · intro w H a ns hl hS
    exact ⟨_, rfl, a, ns, rfl, hS, hl, fun _ => rfl⟩
end Mine
open PySem PySem.W PyProof.Rows
set_option maxRecDepth 100000 in
set_option maxHeartbeats 0 in
theorem PySem.Challenge.cw_wireshell_k02_normal_forms_holds : PySem.Challenge.rw_wireshell_k02_normal_forms.Holds := by
  w_on; o_law; k_head; (case hw => w_witness2)
  k_fill
  refine Mine.walk (l := PySem.Challenge.rw_wireshell_k02_normal_forms) rfl rfl rfl (fun w h Y => PySem.W.kIn_of Y) ?F
  case F =>
    intro w mg h KX G
    refine' Mine.all_mk KX G ?h_NUMBERS ?r_NUMBERS ?h_LETTERS ?r_LETTERS ?h_MOST_LETTERS ?r_MOST_LETTERS ?h_DIGITS ?r_DIGITS ?h_MOST_WORDS ?r_MOST_WORDS ?a_is_name ?l_is_name ?c_is_name ?k_is_name ?a_parts_of ?l_parts_of ?c_parts_of ?k_parts_of ?a_is_word ?l_is_word ?c_is_word ?k_is_word ?a_check_words ?l_check_words ?c_check_words ?k_check_words ?a_row_behind ?l_row_behind ?c_row_behind ?k_row_behind ?a_needs_of ?l_needs_of ?c_needs_of ?k_needs_of ?a_form_of ?l_form_of ?c_form_of ?k_form_of ?a_normal_form ?l_normal_form ?c_normal_form ?k_normal_form ?a_law_source ?l_law_source ?c_law_source ?k_law_source ?a_law_draw ?l_law_draw ?c_law_draw ?k_law_draw ?a_law_word_here ?l_law_word_here ?c_law_word_here ?k_law_word_here ?a_law_some_words ?l_law_some_words ?c_law_some_words ?k_law_some_words ?a_law_played ?l_law_played ?c_law_played ?k_law_played ?a_law_form ?l_law_form ?c_law_form ?k_law_form ?a_law_right ?l_law_right ?c_law_right ?k_law_right ?a_law_holds ?l_law_holds ?c_law_holds ?k_law_holds ?a_law ?l_law ?c_law ?k_law ?z_all ?z_enumerate ?z_int ?z_isinstance ?z_len ?z_list ?z_max ?z_min ?z_range ?z_repr ?z_sorted ?z_str ?z_tuple
    (case h_NUMBERS => k_is); (case r_NUMBERS => exact ⟨_, rfl⟩)
    (case h_LETTERS => k_is); (case r_LETTERS => exact ⟨_, rfl⟩)
    (case h_MOST_LETTERS => k_is); (case r_MOST_LETTERS => exact ⟨_, rfl⟩)
    (case h_DIGITS => k_is); (case r_DIGITS => exact ⟨_, rfl⟩)
    (case h_MOST_WORDS => k_is); (case r_MOST_WORDS => exact ⟨_, rfl⟩)
    (case a_is_name => k_is); (case l_is_name => k_is); (case c_is_name => k_is); (case k_is_name => k_is)
    (case a_parts_of => k_is); (case l_parts_of => k_is); (case c_parts_of => k_is); (case k_parts_of => k_is)
    (case a_is_word => k_is); (case l_is_word => k_is); (case c_is_word => k_is); (case k_is_word => k_is)
    (case a_check_words => k_is); (case l_check_words => k_is); (case c_check_words => k_is); (case k_check_words => k_is)
    (case a_row_behind => k_is); (case l_row_behind => k_is); (case c_row_behind => k_is); (case k_row_behind => k_is)
    (case a_needs_of => k_is); (case l_needs_of => k_is); (case c_needs_of => k_is); (case k_needs_of => k_is)
    (case a_form_of => k_is); (case l_form_of => k_is); (case c_form_of => k_is); (case k_form_of => k_is)
    (case a_normal_form => k_is); (case l_normal_form => k_is); (case c_normal_form => k_is); (case k_normal_form => k_is)
    (case a_law_source => k_is); (case l_law_source => k_is); (case c_law_source => k_is); (case k_law_source => k_is)
    (case a_law_draw => k_is); (case l_law_draw => k_is); (case c_law_draw => k_is); (case k_law_draw => k_is)
    (case a_law_word_here => k_is); (case l_law_word_here => k_is); (case c_law_word_here => k_is); (case k_law_word_here => k_is)
    (case a_law_some_words => k_is); (case l_law_some_words => k_is); (case c_law_some_words => k_is); (case k_law_some_words => k_is)
    (case a_law_played => k_is); (case l_law_played => k_is); (case c_law_played => k_is); (case k_law_played => k_is)
    (case a_law_form => k_is); (case l_law_form => k_is); (case c_law_form => k_is); (case k_law_form => k_is)
    (case a_law_right => k_is); (case l_law_right => k_is); (case c_law_right => k_is); (case k_law_right => k_is)
    (case a_law_holds => k_is); (case l_law_holds => k_is); (case c_law_holds => k_is); (case k_law_holds => k_is)
    (case a_law => k_is); (case l_law => k_is); (case c_law => k_is); (case k_law => k_is)
    (case z_all => k_is)
    (case z_enumerate => k_is)
    (case z_int => k_is)
    (case z_isinstance => k_is)
    (case z_len => k_is)
    (case z_list => k_is)
    (case z_max => k_is)
    (case z_min => k_is)
    (case z_range => k_is)
    (case z_repr => k_is)
    (case z_sorted => k_is)
    (case z_str => k_is)
    (case z_tuple => k_is)
#print axioms PySem.Challenge.cw_wireshell_k02_normal_forms_holds

