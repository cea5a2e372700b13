import PyProof.Rows.All
import Wide.All
import OpenK.AllK
import Wide.FinOn
import HandS.ForMost
import HandS.IsInst
import HandS.Walk
import HandS.Style
import HandS.Wide
import HandS.StrMore
import HandS.TryOnly
import HandS.TryMany
import HandS.More
import HandS.Star
import HandS.Deep
import HandS.TupMul
import HandS.DictComp
import HandS.WordsDict
import PyProof.Rows.SetFrom
import HandS.ExcOwn
import KE.KExcSuper
import HandS.Zip
import KE.GoesEnum
import HandS.TupLen
import HandS.TupAny
import HandS.DictTup
import KE.KDictPairs
import KE.SortData
import HandS.Conv
import PySem.Challenge.RW_wireshell_k27_names_in_rooms_that_fit
set_option Elab.async false
set_option maxRecDepth 100000
set_option maxHeartbeats 4000000
set_option linter.all false
/-! ## The prelude: promises of defs under which no repr is under way, combined rules (one a construct, whatever the kinds), readings step by step -/
namespace Mine
open PySem PySem.Spec PyProof.Rows L2
set_option linter.all false
abbrev St := L2.St

/-! ### names of the top -/
/-- a constant of the top -/
def GK (mg : Str → Option Value) (x : Str) (v : V) : Prop := ∃ u, mg x = some u ∧ RelV v u
theorem pe_gk {X : Cx} {x : Str} {v : V} {pos : Pos} (hg : Gl X x) (h : GK X.mg x v) (hd : (x == ("__debug__" : Str)) = false := by decide) : PE X (.Name x pos) (tC v) := by
  obtain ⟨u, hm, r⟩ := h
  exact pe_glob hg hm r hd

/-! ### a def's promise where no repr is under way -/
/-- room for k calls, no repr under way -/
structure Rm (k : Nat) (A : Around) : Prop where
  r : Room k A
  g : A.guards = some []
theorem Rm.mono {j k : Nat} {A : Around} (h : Rm k A) (l : j ≤ k) : Rm j A := ⟨h.r.mono l, h.g⟩
theorem Rm.down {k : Nat} {A : Around} (h : Rm (k + 1) A) (env : Env) : Rm k (A.deeper env) := ⟨h.r.deeper env, h.g⟩
theorem Rm.hu {k : Nat} {A : Around} (h : Rm k A) : A.units + 1 < cLine := hu_of h.r
theorem Rm.u65 {k : Nat} {A : Around} (h : Rm k A) : A.units + 65 < cLine := by
  have := h.r.un
  omega
/-- the promise itself -/
def Keeps (P : Program) (w : World) (K : PySem.W.Frag) (mg : Str → Option Value) (base : Heap) (CX : CXT) (k : Nat) (f : Addr) (fd : FuncData) (ps : List Str) (sp : Sp) : Prop :=
  (∀ vs H Q E, sp vs H Q E → vs.length = ps.length) ∧
  ∀ (A : Around) (outer : List Env) (s : Shared) (H : Hp) (args : Args) (us : List Value) (vs : List V) (Q : VK) (E : XK),
    Rm k A → Env0 P w K mg base A outer s H → BindsTo s fd args (ps.zip us) → Vals vs us → sp vs H Q E →
      codeAny (model P w) A (.call (.ref f) args) (CR CX outer P w H s Q E) s
/-- a def of the text keeps it, if its body's reading holds at each entry -/
theorem keeps_of {CX : CXT} {P : Program} {w : World} {K : PySem.W.Frag} {mg : Str → Option Value} {base : Heap} {k : Nat} {x qual : Str} {st : Stmt} {f : Addr} {fd : FuncData} {N ps : List Str} {sp : Sp}
    (F : Fun K x qual st f fd) (S : FnScope N ps (defScope st)) (len : ∀ vs H Q E, sp vs H Q E → vs.length = ps.length)
    (body : ∀ (cdv : Value) (A : Around) (outer : List Env) (s : Shared) (H : Hp) (vs : List V) (Q : VK) (E : XK), Rm k (A.deeper (envOfC qual (defScope st) s.heap.objs.size f cdv)) → sp vs H Q E →
      ∃ t, PSs (cxOf CX P w K mg base N qual (defScope st) f cdv A outer s H E) (defBody st) t ∧ t { nx := fun _ H' => Q .non H', rt := Q } (start N vs) H) :
    Keeps P w K mg base CX (k + 1) f fd ps sp := by
  obtain ⟨_, _, kV, doc, pm, an, cdv, ct, _, rfl, lk, hcd⟩ := F.ex
  refine And.intro len ?_
  intro A outer s H args us vs Q E hr e0 hb rv hsp
  have kp : ∀ b o, base.get? b = some o → s.heap.get? b = some o := fun b o e => (e0.bs b o e).1
  have inK : K.In s.heap := PySem.W.Frag.In.keeps e0.mod.kin kp
  have kinds : ∀ q ∈ ps.zip us, (defScope st).names.lookup q.1 = some .local ∨
      ((defScope st).names.lookup q.1 = some .cell ∧ ((cellsFrom (s.heap.objs.size + 1) (defScope st).names []).lookup q.1).isSome = true) := by
    intro q hq
    have hmem := (List.of_mem_zip (show (q.1, q.2) ∈ ps.zip us from hq)).1
    cases S.par q.1 hmem with
    | inl h => exact Or.inl h
    | inr h => exact Or.inr ⟨h, PySem.W.cellsFrom_some _ _ _ (Or.inl h)⟩
  refine codeAny_call_function hr.r.depth (inK _ _ lk) rfl S.co S.gen rfl (PySem.W.codeRec_of inK hcd) ?_
  refine hb _ _ _ _ ?_
  refine wpAny_newFunctionEnv_cells S.kind kinds ?_
  rintro env rfl s1 x1
  refine And.intro (Heap.NoLimit.keeps e0.mod.nolimit fun b o e => x1.toInCall.keep b o (kp b o e)) ?_
  refine codeAny_func ?_
  obtain ⟨t, pt, red⟩ := body cdv A outer s H vs Q E (hr.down _) hsp
  have I0 := inv_start (CX := CX) (E := E) (K := K) (mg := mg) S hr.r.hd e0 (len vs H Q E hsp) rv x1
  refine wpAny_mono (pt.run [] s1 _ H _ I0 red) ?_ (fun _ _ h => h)
  intro fl s2 hfl
  cases fl with
  | ret u =>
    obtain ⟨v, σ2, H2, J, r2, q2⟩ := hfl
    exact ⟨v, H2, J.os, J.bare, J.base, J.hok, r2, q2⟩
  | next =>
    obtain ⟨σ2, H2, J, q2⟩ := hfl
    exact ⟨V.non, H2, J.os, J.bare, J.base, J.hok, rfl, q2⟩
  | brk =>
    obtain ⟨σ2, H2, J, q2⟩ := hfl
    exact False.elim q2
  | cont =>
    obtain ⟨σ2, H2, J, q2⟩ := hfl
    exact False.elim q2

/-- where nothing that is raised leaves it -/
theorem keeps0_of {P : Program} {w : World} {K : PySem.W.Frag} {mg : Str → Option Value} {base : Heap} {k : Nat} {x qual : Str} {st : Stmt} {f : Addr} {fd : FuncData} {N ps : List Str} {sp : Sp}
    (F : Fun K x qual st f fd) (S : FnScope N ps (defScope st)) (len : ∀ vs H Q E, sp vs H Q E → vs.length = ps.length)
    (body : ∀ (cdv : Value) (A : Around) (outer : List Env) (s : Shared) (H : Hp) (vs : List V) (Q : VK) (E : XK), Rm k (A.deeper (envOfC qual (defScope st) s.heap.objs.size f cdv)) → sp vs H Q E →
      ∃ t, PSs (cxOf CX0 P w K mg base N qual (defScope st) f cdv A outer s H E).nox (defBody st) t ∧ t { nx := fun _ H' => Q .non H', rt := Q } (start N vs) H) :
    Keeps P w K mg base CX0 (k + 1) f fd ps sp := by
  refine keeps_of F S len ?_
  intro cdv A outer s H vs Q E hr hsp
  obtain ⟨t, h1, h2⟩ := body cdv A outer s H vs Q E hr hsp
  exact ⟨t, h1.nox, h2⟩

/-! ### defs of the top, by name -/
/-- a def of the top -/
def DefAt (K : PySem.W.Frag) (mg : Str → Option Value) (x : Str) (ps : List Str) (st : Stmt) : Prop :=
  ∃ (f : Addr) (fd : FuncData), Fun K x x st f fd ∧ mg x = some (.ref f) ∧ Binds K fd ps [] ∧ ∀ (s : Shared) (us : List Value), us.length = ps.length → BindsTo s fd ⟨us, []⟩ (ps.zip us)
theorem DefAt.mk {K : PySem.W.Frag} {mg : Str → Option Value} {x : Str} {ps : List Str} {st : Stmt} {f : Addr} {oc : Value} {od an : Option Addr} {osl : Array (Option Value)} {kV doc pm cdv ct : Value}
    (l : K.lookup f = some ⟨oc, od, .func (PySem.W.fnOf x x (defArgs st) (defBody st) (defScope st) .none kV doc pm an cdv ct), osl⟩) (c : PySem.W.codeIn K cdv x = true) (k : PySem.W.keepIn K (.ref f) = true) (hm : mg x = some (.ref f))
    (b : ∀ (kV doc pm : Value) (an : Option Addr) (cdv ct : Value) (us : List Value), us.length = ps.length → bindArgs (PySem.W.fnOf x x (defArgs st) (defBody st) (defScope st) .none kV doc pm an cdv ct) ⟨us, []⟩ = pure (ps.zip us)) : DefAt K mg x ps st := by
  have F := fun_mk (st := st) l c k
  exact ⟨f, _, F, hm, F.binds b, fun s us hl => .of_eq (b _ _ _ _ _ _ us hl)⟩
/-- a def of the top that keeps a promise -/
def Cal (P : Program) (w : World) (K : PySem.W.Frag) (mg : Str → Option Value) (base : Heap) (CX : CXT) (k : Nat) (x : Str) (st : Stmt) (ps : List Str) (sp : Sp) : Prop :=
  ∃ (f : Addr) (fd : FuncData), Fun K x x st f fd ∧ mg x = some (.ref f) ∧ Binds K fd ps [] ∧ Keeps P w K mg base CX k f fd ps sp
theorem cal {P : Program} {w : World} {K : PySem.W.Frag} {mg : Str → Option Value} {base : Heap} {CX : CXT} {k : Nat} {x : Str} {st : Stmt} {ps : List Str} {sp : Sp} (D : DefAt K mg x ps st)
    (h : ∀ {f : Addr} {fd : FuncData}, Fun K x x st f fd → Keeps P w K mg base CX k f fd ps sp) : Cal P w K mg base CX k x st ps sp := by
  obtain ⟨f, fd, F, hm, B, _⟩ := D
  exact ⟨f, fd, F, hm, B, h F⟩
section
variable {X : Cx} {CX : CXT} {k : Nat} {ps : List Str} {sp : Sp} {E : XK} {x : Str} {st : Stmt} {p pos : Pos} {e : Expr} {es : List Expr} {t tk : TA} {kws : List Keyword}
/-- the callee runs, whatever way its arguments were bound -/
theorem run_keeps {pins : List (Addr × Obj)} {σ : St} {H : Hp} {s : Shared} {Q : VK} {args : List Value} {kwargs : List (Str × Value)} {us : List Value} {vs : List V} {f : Addr} {fd : FuncData} (O : Keeps X.prog X.w X.K X.mg X.base CX k f fd ps sp)
    (hr : Rm k X.A) (hx : Passes CX X E) (I : Inv X pins σ H s) (b : BindsTo s fd ⟨args, kwargs⟩ (ps.zip us)) (r : Vals vs us) (h : sp vs H Q E) :
    wpAny (model X.prog X.w) X.A (call (.ref f) args kwargs) (EP X pins σ Q) X.xe s := by
  have run := O.2 X.A X.stack s H ⟨args, kwargs⟩ us vs Q E hr I.env0 b r h
  refine wpAny_call (codeAny_mono run ?_)
  intro res s2 hres
  match res, hres with
  | .error e, hres => exact hx pins σ H s e s2 I hres
  | .ok (.ret u), hres => exact I.after hres
theorem pe_cal (C : Cal X.prog X.w X.K X.mg X.base CX k x st ps sp) (hr : Rm k X.A) (hg : Gl X x) (hx : Passes CX X E) (ha : PA X (e :: es) t)
    (hdb : (x == ("__debug__" : Str)) = false := by decide) (he : starEach (e :: es) X.env = (false, eval e X.env) :: starEach es X.env := by rfl) (hpl : (backTo pos (starEach es X.env)).any (·.1) = false := by rfl) :
    PE X (.Call (.Name x p) (e :: es) [] pos) (tCall sp [] E t) := by
  obtain ⟨f, fd, F, hm, B, O⟩ := C
  constructor
  intro pins s σ H Q I h
  refine wpAny_Call_Name_kw (ld_glob I hg hm ?_ hdb)
  refine PySem.W.callWith_K (h₀ := X.base) I.ok.mod.kin F.kp (thn (ha.run pos pins s σ H _ I h) ?_) he hpl
  rintro us s1 ⟨vs, H1, I1, r, q⟩
  refine And.intro I1.kIn ?_
  have q' : sp vs H1 Q E := by
    have q0 : sp (vs ++ []) H1 Q E := q
    rwa [List.append_nil] at q0
  have hl : (us ++ []).length = ps.length := by
    rw [List.append_nil, ← Vals.length r]
    exact O.1 _ _ _ _ q'
  have b := B s1 us I1.kIn hl
  rw [List.append_nil] at b
  exact run_keeps O hr hx I1 b r q'
theorem pe_cal0 (C : Cal X.prog X.w X.K X.mg X.base CX k x st ps sp) (hr : Rm k X.A) (hg : Gl X x) (hx : Passes CX X E)
    (hdb : (x == ("__debug__" : Str)) = false := by decide) : PE X (.Call (.Name x p) [] [] pos) (tCall sp [] E tNil) := by
  obtain ⟨f, fd, F, hm, B, O⟩ := C
  constructor
  intro pins s σ H Q I h
  have q' : sp [] H Q E := h
  refine wpAny_Call_Name_kw (ld_glob I hg hm ?_ hdb)
  have b := B s [] I.kIn (show ([] ++ [] : List Value).length = ps.length from O.1 _ _ _ _ q')
  exact PySem.W.callWith_K0 I.kIn F.kp (run_keeps (us := []) O hr hx I b .nil q')
/-- positional values, then the keywords' values by their places -/
def gK {α : Type} (pm : List Nat) (us ws : List α) : List α := us ++ pm.filterMap fun i => ws[i]?
theorem gK_rel {pm : List Nat} {vs : List V} {us : List Value} {zs : List V} {ws : List Value} (r : Vals vs us) (q : Vals zs ws) : Vals (gK pm vs zs) (gK pm us ws) := by
  unfold gK
  refine Vals.append r ?_
  induction pm with
  | nil => exact .nil
  | cons i pm ih =>
    rw [List.filterMap_cons, List.filterMap_cons]
    cases e : zs[i]? with
    | none => rw [Vals.none_of q e]; exact ih
    | some z =>
      obtain ⟨u, e1, e2⟩ := Vals.get q e
      rw [e1]
      exact .cons e2 ih
def KwOk (x : Str) (st : Stmt) (ps : List Str) (n : Nat) (ks : List Str) (pm : List Nat) : Prop :=
  ∀ (kV doc pmv : Value) (an : Option Addr) (cdv ct : Value) (us ws : List Value), us.length = n → ws.length = ks.length →
    bindArgs (PySem.W.fnOf x x (defArgs st) (defBody st) (defScope st) .none kV doc pmv an cdv ct) ⟨us, ks.zip ws⟩ = pure (ps.zip (gK pm us ws))
def tCalK (n m : Nat) (pm : List Nat) (sp : Sp) (E : XK) (t tk : TA) : TE := fun σ H Q => t σ H fun vs H1 => tk σ H1 fun zs H2 => vs.length = n ∧ zs.length = m ∧ sp (gK pm vs zs) H2 Q E
theorem kw_binds {K : PySem.W.Frag} {f : Addr} {fd : FuncData} {n : Nat} {ks : List Str} {pm : List Nat} (F : Fun K x x st f fd) (hb : KwOk x st ps n ks pm) (s : Shared) {us ws : List Value} (h1 : us.length = n) (h2 : ws.length = ks.length) :
    BindsTo s fd ⟨us, ks.zip ws⟩ (ps.zip (gK pm us ws)) := by
  obtain ⟨_, _, kV, doc, pmv, an, cdv, ct, _, rfl, _, _⟩ := F.ex
  exact .of_eq (hb kV doc pmv an cdv ct us ws h1 h2)
theorem pe_calK {n : Nat} {ks : List Str} {pm : List Nat} (C : Cal X.prog X.w X.K X.mg X.base CX k x st ps sp) (hr : Rm k X.A) (hg : Gl X x) (hb : KwOk x st ps n ks pm) (hx : Passes CX X E)
    (ha : PA X (e :: es) t) (hkw : PK X kws tk) (hall : (backToKw pos (keywordEach kws X.env)).all (·.1.isSome) = true := by rfl) (hks : (backToKw pos (keywordEach kws X.env)).filterMap (·.1) = ks := by rfl)
    (hdb : (x == ("__debug__" : Str)) = false := by decide) (he : starEach (e :: es) X.env = (false, eval e X.env) :: starEach es X.env := by rfl)
    (hpl : ((backTo pos (starEach (e :: es) X.env)).any (·.1) || (backToKw pos (keywordEach kws X.env)).any (·.1.isNone)) = false := by rfl) :
    PE X (.Call (.Name x p) (e :: es) kws pos) (tCalK n ks.length pm sp E t tk) := by
  obtain ⟨f, fd, F, hm, B, O⟩ := C
  constructor
  intro pins s σ H Q I h
  refine wpAny_Call_Name_kw (ld_glob I hg hm ?_ hdb)
  refine PySem.W.callWith_KW (h₀ := X.base) I.ok.mod.kin F.kp hall (thn (ha.run pos pins s σ H _ I h) ?_) hpl he
  rintro us s1 ⟨vs, H1, I1, r, q⟩
  refine thn (hkw.run pos pins s1 σ H1 _ I1 q) ?_
  rintro ws s2 ⟨zs, H2, I2, rz, l1, l2, q2⟩
  refine And.intro I2.kIn ?_
  rw [hks]
  exact run_keeps O hr hx I2 (kw_binds F hb s2 (by have := Vals.length r; simpa [this] using l1) (by rw [← Vals.length rz]; exact l2)) (gK_rel r rz) q2
theorem pe_calK0 {ks : List Str} {pm : List Nat} (C : Cal X.prog X.w X.K X.mg X.base CX k x st ps sp) (hr : Rm k X.A) (hg : Gl X x) (hb : KwOk x st ps 0 ks pm) (hx : Passes CX X E)
    (hkw : PK X kws tk) (hall : (backToKw pos (keywordEach kws X.env)).all (·.1.isSome) = true := by rfl) (hks : (backToKw pos (keywordEach kws X.env)).filterMap (·.1) = ks := by rfl)
    (hdb : (x == ("__debug__" : Str)) = false := by decide)
    (hpl : ((backTo pos (starEach [] X.env)).any (·.1) || (backToKw pos (keywordEach kws X.env)).any (·.1.isNone)) = false := by rfl) :
    PE X (.Call (.Name x p) [] kws pos) (tCalK 0 ks.length pm sp E tNil tk) := by
  obtain ⟨f, fd, F, hm, B, O⟩ := C
  constructor
  intro pins s σ H Q I h
  refine wpAny_Call_Name_kw (ld_glob I hg hm ?_ hdb)
  refine PySem.W.callWith_KW0 (h₀ := X.base) I.ok.mod.kin F.kp hall ?_ hpl
  have h' : tk σ H fun zs H2 => ([] : List V).length = 0 ∧ zs.length = ks.length ∧ sp (gK pm [] zs) H2 Q E := h
  refine thn (hkw.run pos pins s σ H _ I h') ?_
  rintro ws s2 ⟨zs, H2, I2, rz, l1, l2, q2⟩
  refine And.intro I2.kIn ?_
  rw [hks]
  exact run_keeps (us := gK pm [] ws) O hr hx I2 (kw_binds F hb s2 (us := []) rfl (by rw [← Vals.length rz]; exact l2)) (gK_rel .nil rz) q2
end
/-! ### ways that meet again: what follows is shown once -/
def tMeet (t u : TS) : TS := fun D σ H => ∃ M : St → Hp → Prop, t { D with nx := M } σ H ∧ ∀ σ' H', M σ' H' → u D σ' H'
theorem pss_meet {X : Cx} {st : Stmt} {rest : List Stmt} {t u : TS} (h1 : PS X st t) (h2 : PSs X rest u) : PSs X (st :: rest) (tMeet t u) := by
  constructor
  rintro pins s σ H D I ⟨M, hM, hu⟩
  have first := h1.run pins s σ H { D with nx := M } I hM
  refine wpAny_execs_cons (thn first ?_)
  intro f s1 q
  match f, q with
  | .next, ⟨σ', H', I', q⟩ => exact h2.run pins s1 σ' H' D I' (hu σ' H' q)
  | .ret v, q => exact q
  | .brk, q => exact q
  | .cont, q => exact q
/-! ### promises by the number of parameters -/
abbrev sp1 (Φ : V → Hp → VK → Prop) : Sp := fun vs H Q _ => ∃ a, vs = [a] ∧ Φ a H Q
abbrev sp2 (Φ : V → V → Hp → VK → Prop) : Sp := fun vs H Q _ => ∃ a b, vs = [a, b] ∧ Φ a b H Q
abbrev sp3 (Φ : V → V → V → Hp → VK → Prop) : Sp := fun vs H Q _ => ∃ a b c, vs = [a, b, c] ∧ Φ a b c H Q
abbrev sp4 (Φ : V → V → V → V → Hp → VK → Prop) : Sp := fun vs H Q _ => ∃ a b c d, vs = [a, b, c, d] ∧ Φ a b c d H Q
abbrev sp5 (Φ : V → V → V → V → V → Hp → VK → Prop) : Sp := fun vs H Q _ => ∃ a b c d e, vs = [a, b, c, d, e] ∧ Φ a b c d e H Q
abbrev sp6 (Φ : V → V → V → V → V → V → Hp → VK → Prop) : Sp := fun vs H Q _ => ∃ a b c d e f, vs = [a, b, c, d, e, f] ∧ Φ a b c d e f H Q

/-! ### the law's call -/
theorem law_keeps {P : Program} {w : World} {K : PySem.W.Frag} {mg mb : Str → Option Value} {k : Nat} {fa a : Addr} {fd : FuncData} {x : Str} {sp : Sp} {s₁ : Shared} {vs : List Value} {ns : List Int}
    (kin : K.In s₁.heap) (gns : s₁.heap.Ns mainGlobals mg) (bns : s₁.heap.Ns builtinsNs mb) (bb : ∀ x : Str, x ≠ "__name__" → mb x = bootBuiltins x) (nl : s₁.heap.NoLimit) (ng : s₁.gens = #[])
    (obj : s₁.heap.get? a = some { cls := .type "list", data := .seq vs.toArray }) (his : IntsAre vs ns) (short : ns.length ≤ sizeLine) (room : Room k callerA)
    (F : ∀ base : Heap, K.In base → base.Ns mainGlobals mg → Keeps P w K mg base CX0 k fa fd [x] sp) (bind : ∀ (s : Shared) (u : Value), BindsTo s fd ⟨[u], []⟩ [(x, u)])
    (hsp : ∀ H : Hp, SqL K H a (ns.map V.int) → sp [.ref a] H (fun v _ => v = .bl true) fun _ _ _ => False) :
    codeAny (model P w) callerA (.call (.ref fa) ⟨[.ref a], []⟩) (fun r s' => r = .ok (.ret (.bool true)) ∧ OldK s₁.heap s'.heap ∧ s'.os = s₁.os ∧ AllBare s'.gens) s₁ := by
  have rv := vals_ints his
  have hlen := his.length
  let o₁ : Obj := { cls := .type "list", data := .seq vs.toArray }
  let H₁ : Hp := fun b => if b = a ∧ K.lookup a = none then some (.frz o₁ (.lst (ns.map V.int))) else none
  have hit : ∀ {b u}, H₁ b = some u → (b = a ∧ K.lookup a = none) ∧ u = .frz o₁ (.lst (ns.map V.int)) := by
    intro b u e
    by_cases c : b = a ∧ K.lookup a = none
    · rw [show H₁ b = _ from if_pos c] at e
      exact ⟨c, (Option.some.inj e).symm⟩
    · rw [show H₁ b = _ from if_neg c] at e
      cases e
  have seq : SqL K H₁ a (ns.map V.int) := by
    cases lk : K.lookup a with
    | none => exact Or.inl (Or.inr ⟨o₁, if_pos ⟨rfl, lk⟩⟩)
    | some o =>
      have e := (kin a o lk).symm.trans obj
      cases Option.some.inj e
      exact Or.inr ⟨_, vs.toArray, _, lk, rfl, rfl, rfl, (by rw [List.size_toArray, hlen]; exact short), (by simpa using rv)⟩
  have hok : HOk P w H₁ s₁.heap := by
    intro b u e
    obtain ⟨⟨rfl, _⟩, rfl⟩ := hit e
    exact ⟨obj, (by rw [List.length_map]; exact short), vs, _, rv, obj⟩
  have hid : ∀ {b o}, s₁.heap.get? b = some o → H₁ b = none → (hidT s₁.heap H₁).get? b = some o := fun e n => hidT_get e n
  have free : ∀ {b o es ep}, s₁.heap.get? b = some o → o.data = .dict es ep → H₁ b = none := by
    intro b o es ep e d
    cases q : H₁ b with
    | none => rfl
    | some u =>
      obtain ⟨⟨rfl, _⟩, _⟩ := hit q
      rw [obj] at e
      cases e
      cases d
  have nsOf : ∀ {b : Addr} {m : Str → Option Value}, s₁.heap.Ns b m → (hidT s₁.heap H₁).Ns b m := by
    rintro b m ⟨o, es, ep, e, d, r⟩
    exact ⟨o, es, ep, hid e (free e d), d, r⟩
  have kb : K.In (hidT s₁.heap H₁) := by
    intro b o e
    refine hid (kin b o e) ?_
    cases q : H₁ b with
    | none => rfl
    | some u =>
      obtain ⟨⟨rfl, n⟩, _⟩ := hit q
      rw [n] at e
      cases e
  have md : Mod K mg (hidT s₁.heap H₁) := by
    obtain ⟨mc, l1, l2⟩ := nl
    exact ⟨kb, nsOf gns, ⟨mb, nsOf bns, bb⟩, ⟨mc, nsOf l1, l2⟩⟩
  have e0 : Env0 P w K mg (hidT s₁.heap H₁) callerA [] s₁ H₁ :=
    ⟨rfl, md, fun _ _ e => of_hidT e, Nat.le_of_eq (hidT_size _ _), trivial, fun b hb => absurd (show b ∈ ([] : List Addr) from hb) List.not_mem_nil, hok, .of_eq ng⟩
  have run := (F _ kb (nsOf gns)).2 callerA [] s₁ H₁ ⟨[.ref a], []⟩ [.ref a] [.ref a] _ _ ⟨room, rfl⟩ e0 (bind s₁ (.ref a)) (.cons rfl .nil) (hsp H₁ seq)
  refine codeAny_mono run ?_
  intro res s2 hres
  match res, hres with
  | .error e, hres => exact hres.elim
  | .ok (.ret u), hres =>
    obtain ⟨v, H2, os, bare, un, hok2, rr, q⟩ := hres
    cases (show v = .bl true from q)
    cases (show u = Value.bool true from rr)
    refine ⟨rfl, OldK.of_keep ?_, os, bare⟩
    intro b o e
    cases q2 : H₁ b with
    | none => exact un.keep b o e q2 (fun z => absurd (show b ∈ ([] : List Addr) from z) List.not_mem_nil) List.not_mem_nil
    | some z =>
      have z2 := (hit q2).2
      subst z2
      have e1 := (hok b _ q2).1
      have e2 := (hok2 b _ (un.frzs b _ _ q2)).1
      rw [e] at e1
      cases Option.some.inj e1
      exact e2
/-- the goal that the head leaves, from the law's promise -/
theorem walk_keeps {l : PySem.W.OpenLaw} {n k : Nat} {q : Program} {loose : List Str} {XP : (Str → Option Value) → Heap → Prop} {YP : World → Heap → Prop} {d : DefRec} {K : Params → PySem.W.Frag} {sp : World → Sp} {x : Str}
    (hn : l.most = some n) (hn2 : n ≤ sizeLine) (hdf : d.params.defaults = []) (hr : Room k callerA) (hY : ∀ (w : World) (h : Heap), YP w h → (K w.params).In h)
    (F : ∀ (w : World) (mg : Str → Option Value) (fa : Addr) (h : Heap), (K w.params).In h → h.Ns mainGlobals mg → mg d.name = some (.ref fa) →
      ∃ fd : FuncData, (∀ (s : Shared) (u : Value), BindsTo s fd ⟨[u], []⟩ [(x, u)]) ∧ ∀ base : Heap, (K w.params).In base → base.Ns mainGlobals mg → Keeps l.prog w (K w.params) mg base CX0 k fa fd [x] (sp w))
    (hsp : ∀ (w : World) (H : Hp) (a : Addr) (ns : List Int), ns.length ≤ n → SqL (K w.params) H a (ns.map V.int) → sp w [.ref a] H (fun v _ => v = .bl true) fun _ _ _ => False) :
    PySem.W.WalkO q loose XP YP l.row.toRowW d [] (fun f vs => PySem.call f vs) := by
  refine Att.attach_call hn hdf ?_
  intro w s₀ s₁ mg mb fa o pm cd doc a vs ns G Y _ _ _ hmg obj his hl ng
  obtain ⟨fd, hb, hF⟩ := F w mg fa _ (hY w _ Y) G.T.g hmg
  exact law_keeps (hY w _ Y) G.T.g G.T.b G.T.builtins G.T.nolimit ng obj his (Nat.le_trans hl hn2) hr hF hb fun H hS => hsp w H a ns hl hS
end Mine

/-! ## Operators whatever the kinds -/
namespace Mine
open PySem PySem.Spec PyProof.Rows L2
set_option linter.all false
section
variable {X : Cx}
/-- lists put together, each whichever stands -/
def rCatS (K : PySem.W.Frag) : R2 := fun x y H Q => ∃ l b xs zs, x = .ref l ∧ y = .ref b ∧ SqL K H l xs ∧ SqL K H b zs ∧ xs.length + zs.length ≤ sizeLine ∧ ∀ p, H p = none → Q (.ref p) (upd H p (.lst (xs ++ zs)))
theorem op_catS : OpR X (binaryOp .Add) (rCatS X.K) := by
  intro pins s σ H x y v u Q I rx ry h
  obtain ⟨l, b, xs, zs, rfl, rfl, h1, h2, hz, q⟩ := h
  cases rx
  cases ry
  obtain ⟨its, r, p, _⟩ := I.list h1
  obtain ⟨its2, r2, p2, _⟩ := I.list h2
  obtain ⟨⟨cls, dd, data, sl⟩, ho, hc, n, hd⟩ := p.isList
  obtain ⟨⟨cls2, dd2, data2, sl2⟩, ho2, hc2, n2, hd2⟩ := p2.isList
  simp only at hc hd hc2 hd2
  subst hc hd hc2 hd2
  have lx := r.length
  have ly := r2.length
  have hs : its.toArray.size + its2.toArray.size ≤ sizeLine := by rw [List.size_toArray, List.size_toArray]; omega
  have e : its.toArray ++ its2.toArray = (its ++ its2).toArray := by simp
  refine concat_meets ⟨_, ho, rfl⟩ ⟨_, ho2, rfl⟩ noFill_list_add seq_list_add PySem.F.slot_list_add PySem.F.entry_list_add (PySem.F.args_list_add_2 _ _) (list_addW l b its.toArray its2.toArray n n2 dd dd2 sl sl2 hs) ⟨ho, ho2, ?_⟩
  rw [e]
  exact ⟨.ref _, _, I.lnew (t' := s.toks) (r.append r2) (by rw [List.length_append]; omega), rfl, q _ I.fresh⟩
def xAdd (K : PySem.W.Frag) : R2 := fun x y H Q => match x, y with
  | .int i, .int j => Q (.int (i + j)) H
  | .str a, .str b => a.length + b.length ≤ sizeLine ∧ Q (.str (a ++ b)) H
  | .ref a, .ref b => rCatS K (.ref a) (.ref b) H Q ∨ rCatA K (.ref a) (.ref b) H Q
  | _, _ => False
theorem oAdd₀ : OpR X (binaryOp .Add) (xAdd X.K) := by
  intro pins s σ H x y v u Q I rx ry h
  cases x <;> cases y <;> first
    | exact False.elim h
    | exact op_add pins s σ H _ _ v u Q I rx ry ⟨_, _, rfl, rfl, h⟩
    | exact op_add_str pins s σ H _ _ v u Q I rx ry ⟨_, _, rfl, rfl, h⟩
    | exact (OpR.or op_catS op_catA) pins s σ H _ _ v u Q I rx ry h
def xSub : R2 := fun x y H Q => match x, y with
  | .int i, .int j => Q (.int (i - j)) H
  | _, _ => False
theorem oSub : OpR X (binaryOp .Sub) xSub := by
  intro pins s σ H x y v u Q I rx ry h
  cases x <;> cases y <;> first
    | exact False.elim h
    | exact op_sub pins s σ H _ _ v u Q I rx ry ⟨_, _, rfl, rfl, h⟩
theorem mulI : OpR X (binaryOp .Mult) (rI IntMulOk fun i j => .int (i * j)) := opI fun _ _ _ _ _ _ _ hc q => mul_int q hc
theorem mulS : OpR X (binaryOp .Mult) (fun x y H Q => ∃ a k, x = .str a ∧ y = .int k ∧ MulOk a k ∧ Q (.str (Txt.mul a k)) H) := by
  intro pins s σ H x y v u Q I rx ry h
  obtain ⟨a, k, rfl, rfl, ok, q⟩ := h
  obtain ⟨t, rfl⟩ := rx
  obtain ⟨t', rfl⟩ := ry
  exact SB.mul ok fun t2 k2 => ⟨.str _, H, I.tok k2, ⟨_, rfl⟩, q⟩
def xMul (K : PySem.W.Frag) : R2 := fun x y H Q => match x, y with
  | .int i, .int j => IntMulOk i j ∧ Q (.int (i * j)) H
  | .str a, .int k => MulOk a k ∧ Q (.str (Txt.mul a k)) H
  | .ref a, .int k => rRep (.ref a) (.int k) H Q ∨ rRepT K (.ref a) (.int k) H Q
  | _, _ => False
theorem oMul₀ : OpR X (binaryOp .Mult) (xMul X.K) := by
  intro pins s σ H x y v u Q I rx ry h
  cases x <;> cases y <;> first
    | exact False.elim h
    | exact mulI pins s σ H _ _ v u Q I rx ry ⟨_, _, rfl, rfl, h⟩
    | exact mulS pins s σ H _ _ v u Q I rx ry ⟨_, _, rfl, rfl, h⟩
    | exact (OpR.or op_rep op_repT) pins s σ H _ _ v u Q I rx ry h
def xMod : R2 := fun x y H Q => match x, y with
  | .int i, .int j => 0 < j ∧ Q (.int (i % j)) H
  | _, _ => False
theorem oMod : OpR X (binaryOp .Mod) xMod := by
  intro pins s σ H x y v u Q I rx ry h
  cases x <;> cases y <;> first
    | exact False.elim h
    | exact op_mod pins s σ H _ _ v u Q I rx ry ⟨_, _, rfl, rfl, h⟩
def xDiv : R2 := fun x y H Q => match x, y with
  | .int i, .int j => CDivW i j ∧ Q (.int (i / j)) H
  | _, _ => False
theorem oDiv : OpR X (binaryOp .FloorDiv) xDiv := by
  intro pins s σ H x y v u Q I rx ry h
  cases x <;> cases y <;> first
    | exact False.elim h
    | exact op_fdivW pins s σ H _ _ v u Q I rx ry ⟨_, _, rfl, rfl, h⟩
def PowOk (i j : Int) : Prop := 0 ≤ j ∧ (Builtin.Int.intBits i : Int) * j ≤ 2 ^ 27
def xPow : R2 := fun x y H Q => match x, y with
  | .int i, .int j => PowOk i j ∧ Q (.int (i ^ j.toNat)) H
  | _, _ => False
theorem powI : OpR X (binaryOp .Pow) (rI PowOk fun i j => .int (i ^ j.toNat)) := opI fun _ _ _ _ _ _ _ hc q => pow_int hc.1 hc.2 q
theorem oPow : OpR X (binaryOp .Pow) xPow := by
  intro pins s σ H x y v u Q I rx ry h
  cases x <;> cases y <;> first
    | exact False.elim h
    | exact powI pins s σ H _ _ v u Q I rx ry ⟨_, _, rfl, rfl, h⟩
/-! ### comparisons -/
/-- two lists one of which is empty: their lengths tell -/
def rLen2 (K : PySem.W.Frag) (f : Bool → Bool) : R2 := fun x y H Q => ∃ p q xs ys, x = .ref p ∧ y = .ref q ∧ SqL K H p xs ∧ SqL K H q ys ∧ (xs = [] ∨ ys = []) ∧ Q (.bl (f (decide (xs.length = ys.length)))) H
theorem eqLen (hu : X.A.units < cLine) : OpR X (compareOp .Eq) (rLen2 X.K id) := by
  intro pins s σ H x y v u Q I rx ry h
  obtain ⟨p, q, xs, ys, rfl, rfl, hx, hy, he, k⟩ := h
  cases rx
  cases ry
  obtain ⟨ix, vx, px, _⟩ := I.list hx
  obtain ⟨iy, vy, py, _⟩ := I.list hy
  have lx := vx.length
  have ly := vy.length
  by_cases e : xs.length = ys.length
  · have x0 : ix.toArray.size = 0 := by rcases he with rfl | rfl <;> simp_all
    rw [decide_eq_true e] at k
    refine SeqAt.eq_listAt (e := fun _ => true) px.isList py.isList (by rw [List.size_toArray, List.size_toArray]; omega) hu (fun j h1 _ => by omega) ?_
    rw [x0]
    exact ⟨.bl _, H, I, rfl, k⟩
  · rw [decide_eq_false e] at k
    exact SeqAt.eq_list_lengthsAt px.isList py.isList (by rw [List.size_toArray, List.size_toArray]; simp; omega) hu ⟨.bl _, H, I, rfl, k⟩
theorem neLen (hu : X.A.units < cLine) : OpR X (compareOp .NotEq) (rLen2 X.K (!·)) := by
  intro pins s σ H x y v u Q I rx ry h
  obtain ⟨p, q, xs, ys, rfl, rfl, hx, hy, he, k⟩ := h
  cases rx
  cases ry
  obtain ⟨ix, vx, px, _⟩ := I.list hx
  obtain ⟨iy, vy, py, _⟩ := I.list hy
  have lx := vx.length
  have ly := vy.length
  by_cases e : xs.length = ys.length
  · have x0 : ix.toArray.size = 0 := by rcases he with rfl | rfl <;> simp_all
    rw [decide_eq_true e] at k
    refine SeqAt.RcNeAt.lists (e := fun _ => true) px.isList py.isList (by rw [List.size_toArray, List.size_toArray]; omega) hu (fun j h1 _ => by omega) _ _ _ _ ?_
    rw [x0]
    exact ⟨.bl _, H, I, rfl, k⟩
  · rw [decide_eq_false e] at k
    exact SeqAt.RcNeAt.lists_lengths px.isList py.isList (by rw [List.size_toArray, List.size_toArray]; simp; omega) hu _ _ _ _ ⟨.bl _, H, I, rfl, k⟩
def xEq (K : PySem.W.Frag) : R2 := fun x y H Q => (scal x y = true ∧ Q (.bl (decide (x = y))) H) ∨ rEqD K x y H Q ∨ rLen2 K id x y H Q
theorem oEq₀ (hu : X.A.units + 65 < cLine) : OpR X (compareOp .Eq) (xEq X.K) := OpR.or op_eq (OpR.or (op_eqD (by omega)) (eqLen (by omega)))
def xNe (K : PySem.W.Frag) : R2 := fun x y H Q => (scal x y = true ∧ Q (.bl (!decide (x = y))) H) ∨ rNeD K x y H Q ∨ rLen2 K (!·) x y H Q
theorem oNe₀ (hu : X.A.units + 65 < cLine) : OpR X (compareOp .NotEq) (xNe X.K) := OpR.or op_ne (OpR.or (op_neD (by omega)) (neLen (by omega)))
def xLt : R2 := fun x y H Q => match x, y with
  | .int i, .int j => Q (.bl (decide (i < j))) H
  | .str a, .str b => Q (.bl (decide (a.cps.toList < b.cps.toList))) H
  | _, _ => False
theorem oLt : OpR X (compareOp .Lt) xLt := by
  intro pins s σ H x y v u Q I rx ry h
  cases x <;> cases y <;> first
    | exact False.elim h
    | exact op_lt pins s σ H _ _ v u Q I rx ry ⟨_, _, rfl, rfl, h⟩
    | exact op_lt_str pins s σ H _ _ v u Q I rx ry ⟨_, _, rfl, rfl, h⟩
def xLe : R2 := fun x y H Q => match x, y with
  | .int i, .int j => Q (.bl (decide (i ≤ j))) H
  | .str a, .str b => Q (.bl (!decide (b.cps.toList < a.cps.toList))) H
  | _, _ => False
theorem oLe : OpR X (compareOp .LtE) xLe := by
  intro pins s σ H x y v u Q I rx ry h
  cases x <;> cases y <;> first
    | exact False.elim h
    | exact op_le pins s σ H _ _ v u Q I rx ry ⟨_, _, rfl, rfl, h⟩
    | exact op_le_str pins s σ H _ _ v u Q I rx ry ⟨_, _, rfl, rfl, h⟩
def xGt : R2 := fun x y H Q => match x, y with
  | .int i, .int j => Q (.bl (decide (j < i))) H
  | .str a, .str b => Q (.bl (decide (b.cps.toList < a.cps.toList))) H
  | _, _ => False
theorem oGt : OpR X (compareOp .Gt) xGt := by
  intro pins s σ H x y v u Q I rx ry h
  cases x <;> cases y <;> first
    | exact False.elim h
    | exact op_gt pins s σ H _ _ v u Q I rx ry ⟨_, _, rfl, rfl, h⟩
    | exact op_gt_str pins s σ H _ _ v u Q I rx ry ⟨_, _, rfl, rfl, h⟩
def xGe : R2 := fun x y H Q => match x, y with
  | .int i, .int j => Q (.bl (decide (j ≤ i))) H
  | .str a, .str b => Q (.bl (!decide (a.cps.toList < b.cps.toList))) H
  | _, _ => False
theorem oGe : OpR X (compareOp .GtE) xGe := by
  intro pins s σ H x y v u Q I rx ry h
  cases x <;> cases y <;> first
    | exact False.elim h
    | exact op_ge pins s σ H _ _ v u Q I rx ry ⟨_, _, rfl, rfl, h⟩
    | exact op_ge_str pins s σ H _ _ v u Q I rx ry ⟨_, _, rfl, rfl, h⟩
/-- a text stands in another one -/
def inS (a b : Str) : Bool := !(Builtin.Str.occurrences b a 0 b.length 1).isEmpty
theorem inS_sign (c : Nat) (z : Str) : inS ⟨#[c]⟩ z = decide (c ∈ z.cps.toList) := PySem.StrLaws.found_one z c
def xIn (K : PySem.W.Frag) : R2 := fun x y H Q => match y with
  | .str b => ∃ a, x = .str a ∧ Q (.bl (inS a b)) H
  | .ref p => rIn K false x (.ref p) H Q ∨ rInD K x (.ref p) H Q
  | _ => False
theorem oIn₀ (hu : X.A.units + 65 < cLine) : OpR X (compareOp .In) (xIn X.K) := by
  intro pins s σ H x y v u Q I rx ry h
  cases y with
  | str b =>
    obtain ⟨a, rfl, q⟩ := h
    exact op_in_str pins s σ H _ _ v u Q I rx ry ⟨_, _, rfl, rfl, q⟩
  | ref p => exact (OpR.or op_in_seq (op_inD hu)) pins s σ H _ _ v u Q I rx ry h
  | _ => exact False.elim h
def xNotIn (K : PySem.W.Frag) : R2 := fun x y H Q => match y with
  | .str b => ∃ a, x = .str a ∧ Q (.bl (!inS a b)) H
  | .ref p => rIn K true x (.ref p) H Q ∨ rNotInD K x (.ref p) H Q
  | _ => False
theorem oNotIn₀ (hu : X.A.units + 65 < cLine) : OpR X (compareOp .NotIn) (xNotIn X.K) := by
  intro pins s σ H x y v u Q I rx ry h
  cases y with
  | str b =>
    obtain ⟨a, rfl, q⟩ := h
    exact op_notin_str pins s σ H _ _ v u Q I rx ry ⟨_, _, rfl, rfl, q⟩
  | ref p => exact (OpR.or op_notIn_seq (op_notInD hu)) pins s σ H _ _ v u Q I rx ry h
  | _ => exact False.elim h
def xIs : R2 := fun x y H Q => (y = .non ∧ Q (.bl (decide (x = .non))) H) ∨ rIsB x y H Q
theorem oIs : OpR X (compareOp .Is) xIs := OpR.or op_isN op_isBl
def xIsNot : R2 := fun x y H Q => (y = .non ∧ Q (.bl (!decide (x = .non))) H) ∨ rNotB x y H Q
theorem oIsNot : OpR X (compareOp .IsNot) xIsNot := OpR.or op_notN op_notBl
/-! ### subscripts, slices, len, int, repr, what a for walks -/
def xIx (K : PySem.W.Frag) : R2 := fun x y H Q => match x, y with
  | .str z, .int i => ∃ c, z.length ≤ sizeLine ∧ atI z.cps.toList i = some c ∧ Q (.str ⟨#[c]⟩) H
  | .ref p, .int i => ∃ xs v, (SqL K H p xs ∨ SqT K H p xs) ∧ atI xs i = some v ∧ Q v H
  | _, _ => False
theorem ixX₀ : IxR X (xIx X.K) := by
  intro a b pins s σ H x y v u Q I rx ry h hs
  refine ix_seq a b pins s σ H x y v u Q I rx ry ?_ hs
  cases x <;> cases y <;> first
    | exact False.elim h
    | (obtain ⟨c, h1, h2, q⟩ := h; exact .inr (.inr ⟨_, _, c, rfl, rfl, h1, h2, q⟩))
    | (obtain ⟨xs, v, h1, h2, q⟩ := h
       rcases h1 with h1 | h1
       · exact .inl ⟨_, xs, _, v, rfl, rfl, h1, h2, q⟩
       · exact .inr (.inl ⟨_, xs, _, v, rfl, rfl, h1, h2, q⟩))
def xSl (K : PySem.W.Frag) : V → Option Int → Option Int → Hp → VK → Prop := fun x lo hi H Q => match x with
  | .str z => z.length ≤ sizeLine ∧ Q (.str (cutS z lo hi)) H
  | .ref p => rSlL K (.ref p) lo hi H Q ∨ rSlA K (.ref p) lo hi H Q
  | _ => False
theorem sX₀ : SlR X (xSl X.K) := by
  intro pins s σ H x v vl vu lo hi sl Q I rx hs pl pu h
  refine (SlR.or (SlR.or sl_list sl_tupA) sl_str) pins s σ H x v vl vu lo hi sl Q I rx hs pl pu ?_
  cases x with
  | str z => exact .inr ⟨z, rfl, h⟩
  | ref p => exact .inl h
  | _ => exact False.elim h
def xLen (K : PySem.W.Frag) : List V → Hp → VK → Prop := fun xs H Q => (∃ x n, xs = [x] ∧ LenV K x H n ∧ Q (.int (n : Int)) H) ∨ ∃ a kvs, xs = [V.ref a] ∧ H a = some (.dK kvs) ∧ Q (.int kvs.length) H
theorem call_lenX₀ : CallR X (.builtin "len") (xLen X.K) := fun pins s σ H xs us Q I r h => by
  rcases h with h | h
  · exact call_len pins s σ H xs us Q I r h
  · exact call_lenD pins s σ H xs us Q I r h
def xInt : List V → Hp → VK → Prop := fun xs H Q => match xs with
  | [.int i] => Q (.int i) H
  | [.bl k] => Q (.int (if k then 1 else 0)) H
  | [.str a] => ∃ n, PySem.intText? a = some n ∧ a.length ≤ 640 ∧ Q (.int n) H
  | _ => False
theorem call_intX : CallR X (.type "int") xInt := by
  intro pins s σ H xs us Q I r h
  match xs, h with
  | [.int i], h => exact call_int1 pins s σ H _ us Q I r (.inl ⟨i, rfl, h⟩)
  | [.bl k], h => exact call_int1 pins s σ H _ us Q I r (.inr ⟨k, rfl, h⟩)
  | [.str a], ⟨n, h1, h2, h3⟩ => exact call_int_str pins s σ H _ us Q I r ⟨a, n, rfl, h1, h2, h3⟩
def xMax : List V → Hp → VK → Prop := fun xs H Q => match xs with
  | [.int i, .int j] => Q (.int (max i j)) H
  | _ => False
theorem call_maxX (hc : X.calm = true) : CallR X (.builtin "max") xMax := by
  intro pins s σ H xs us Q I r h
  match xs, h with
  | [.int i, .int j], h =>
    refine call_max2 hc pins s σ H _ us Q I r ⟨i, j, rfl, ?_⟩
    have e : (if j > i then j else i) = max i j := by omega
    rw [e]
    exact h
def xMin : List V → Hp → VK → Prop := fun xs H Q => match xs with
  | [.int i, .int j] => Q (.int (min i j)) H
  | _ => False
theorem call_minX (hc : X.calm = true) : CallR X (.builtin "min") xMin := by
  intro pins s σ H xs us Q I r h
  match xs, h with
  | [.int i, .int j], h =>
    refine call_min2 hc pins s σ H _ us Q I r ⟨i, j, rfl, ?_⟩
    have e : (if j < i then j else i) = min i j := by omega
    rw [e]
    exact h
/-- what may be shown -/
def Shows (d : PyData) : Prop := d.showable = true ∧ d.hasDict = false ∧ d.depth ≤ 60 ∧ d.shown.length ≤ sizeLine
def xRepr (K : PySem.W.Frag) : List V → Hp → VK → Prop := fun xs H Q => ∃ x d, xs = [x] ∧ Dp K H x d ∧ Shows d ∧ Q (.str d.shown) H
theorem call_reprX₀ (hr : Rm 0 X.A) : CallR X (.builtin "repr") (xRepr X.K) := by
  intro pins s σ H xs us Q I r h
  obtain ⟨x, d, rfl, hd, ⟨h1, h2, h3, h4⟩, q⟩ := h
  obtain ⟨u, rfl, rx⟩ := vals1 r
  obtain ⟨as, rd⟩ := Dp.reads I d x u hd rx
  have hu := hr.r.un
  have hl : d.shown.length ≤ sizeLine := h4
  cases u with
  | ref a =>
    refine repr_of_reads' rd h1 (fun e => by rw [h2] at e; cases e) hr.g (by omega) (fun _ _ e => e) ?_ hl
    intro h' t tk keep
    exact ⟨.str _, H, I.kept keep, ⟨_, rfl⟩, q⟩
  | none => cases rd; exact P.repr_of_none ⟨.str _, H, I.tok _, ⟨_, rfl⟩, q⟩
  | bool b => cases rd; exact P.repr_of_bool ⟨.str _, H, I.tok _, ⟨_, by cases b <;> rfl⟩, q⟩
  | int i t =>
    cases rd
    refine P.repr_of_int ?_ ⟨.str _, H, I.tok _, ⟨_, rfl⟩, q⟩
    simpa [PyData.showable] using h1
  | str z t => cases rd; exact P.repr_of_str ⟨.str _, H, I.tok _, ⟨_, rfl⟩, q⟩ hl
  | _ => cases hd <;> cases rx <;> rename_i h <;> cases h
def xList (K : PySem.W.Frag) : List V → Hp → VK → Prop := fun xs H Q => ∃ p ys, xs = [.ref p] ∧ (SqL K H p ys ∨ SqT K H p ys) ∧ ∀ l, H l = none → Q (.ref l) (upd H l (.lst ys))
def xTup (K : PySem.W.Frag) : List V → Hp → VK → Prop := fun xs H Q => ∃ p ys, xs = [.ref p] ∧ ((SqL K H p ys ∧ ∀ l, H l = none → Q (.ref l) (upd H l (.tup ys))) ∨ (SqT K H p ys ∧ Q (.ref p) H))
def xSortDI : List V → Hp → VK → Prop := fun xs H Q => ∃ (a : Addr) (kvs : List (Key × V)) (ks : List Int), xs = [.ref a] ∧ Rd H a (.dK kvs) ∧ kvs.map (·.1) = ks.map Sum.inl ∧ ks.length < 64 ∧
  ∀ (ys : List Int) (p : Addr), ys.Perm ks → ys.Pairwise (· ≤ ·) → H p = none → Q (.ref p) (upd H p (.lst (ys.map V.int)))
/-! the same, the written part named -/
variable {K : PySem.W.Frag}
theorem oAdd (e : X.K = K := by rfl) : OpR X (binaryOp .Add) (xAdd K) := by
  subst e
  exact oAdd₀
theorem oMul (e : X.K = K := by rfl) : OpR X (binaryOp .Mult) (xMul K) := by
  subst e
  exact oMul₀
theorem oEq (hu : X.A.units + 65 < cLine) (e : X.K = K := by rfl) : OpR X (compareOp .Eq) (xEq K) := by
  subst e
  exact oEq₀ hu
theorem oNe (hu : X.A.units + 65 < cLine) (e : X.K = K := by rfl) : OpR X (compareOp .NotEq) (xNe K) := by
  subst e
  exact oNe₀ hu
theorem oIn (hu : X.A.units + 65 < cLine) (e : X.K = K := by rfl) : OpR X (compareOp .In) (xIn K) := by
  subst e
  exact oIn₀ hu
theorem oNotIn (hu : X.A.units + 65 < cLine) (e : X.K = K := by rfl) : OpR X (compareOp .NotIn) (xNotIn K) := by
  subst e
  exact oNotIn₀ hu
theorem ixX (e : X.K = K := by rfl) : IxR X (xIx K) := by
  subst e
  exact ixX₀
theorem sX (e : X.K = K := by rfl) : SlR X (xSl K) := by
  subst e
  exact sX₀
theorem call_lenX (e : X.K = K := by rfl) : CallR X (.builtin "len") (xLen K) := by
  subst e
  exact call_lenX₀
theorem call_reprX (hr : Rm 0 X.A) (e : X.K = K := by rfl) : CallR X (.builtin "repr") (xRepr K) := by
  subst e
  exact call_reprX₀ hr
theorem isiX (e : X.K = K := by rfl) : CallR X (.builtin "isinstance") (rIsi K) := by
  subst e
  exact call_isi
theorem isiTX (e : X.K = K := by rfl) : CallR X (.builtin "isinstance") (rIsiT K) := by
  subst e
  exact call_isiT
theorem allX (hc : X.calm = true) (e : X.K = K := by rfl) : CallR X (.builtin "all") (rAll K) := by
  subst e
  exact cr_all hc
theorem anyX (hc : X.calm = true) (e : X.K = K := by rfl) : CallR X (.builtin "any") (rAny K) := by
  subst e
  exact cr_any hc
/-- whatever a for walks: a list, a tuple, a text -/
def iAny (K : PySem.W.Frag) (te : TE) : TI := fun σ H R => iList K te σ H R ∨ iTup K te σ H R ∨ iStr te σ H R
theorem pi_any {tg e : Expr} {te : TE} (he : PE X e te) (ek : X.K = K := by rfl) : PI X tg e (iAny K te) := by
  subst ek
  refine ⟨fun pins s σ H R I h => ?_⟩
  rcases h with h | h | h
  · exact (pi_list he).run pins s σ H R I h
  · exact (pi_tup he).run pins s σ H R I h
  · exact (pi_str he).run pins s σ H R I h
theorem pe_bmX {o e : Expr} {es : List Expr} {to : TE} {t : TA} {name : Str} {apos cpos : Pos} {T id : String} {r : V → List V → Hp → VK → Prop} (pa : PlainAttrs T) (slot : Slot T name id) (hty : typeOf (.builtin id) = pure (.type "method_descriptor"))
    (hm : MtR X id r) (ho : PE X o to) (ha : PA X (e :: es) t) (ek : X.K = K := by rfl)
    (hbase : attributeBase o name X.env (eval o X.env) = eval o X.env := by rfl)
    (hfew : ((backTo cpos (starEach (e :: es) X.env)).all (fun x => !x.1) && (backToKw cpos (keywordEach [] X.env)).all (fun x => x.1.isSome) && decide ((e :: es).length + ([] : List Keyword).length + (if ([] : List Keyword).isEmpty then 0 else 1) < 30)) = true := by rfl)
    (hline : (apos.endLine == cpos.line) = true := by rfl) (hs : starEach (e :: es) X.env = (false, eval e X.env) :: starEach es X.env := by rfl) (hplain : (backTo cpos (starEach es X.env)).any (·.1) = false := by rfl) :
    PE X (.Call (.Attribute o name apos) (e :: es) [] cpos) (tBM K T r to t) := by
  subst ek
  exact pe_bm pa slot hty hm ho ha hbase hfew hline hs hplain
theorem pe_bm0X {o : Expr} {to : TE} {name : Str} {apos cpos : Pos} {T id : String} {r : V → List V → Hp → VK → Prop} (pa : PlainAttrs T) (slot : Slot T name id) (hty : typeOf (.builtin id) = pure (.type "method_descriptor"))
    (hm : MtR X id r) (ho : PE X o to) (ek : X.K = K := by rfl) (hbase : attributeBase o name X.env (eval o X.env) = eval o X.env := by rfl) (hline : (apos.endLine == cpos.line) = true := by rfl) :
    PE X (.Call (.Attribute o name apos) [] [] cpos) (tBM0 K T r to) := by
  subst ek
  exact pe_bm0 pa slot hty hm ho hbase hline
theorem pg_tupX {es : List Expr} {k : Nat} {t : TGs} {n : Nat} {pos : Pos} (hc : X.calm = true) (h : PGs X es t) (ek : X.K = K := by rfl)
    (hn : (assignEach es X.env).length = n := by rfl) (hst : (assignEach es X.env).findIdx? (·.1) = none := by rfl) : PG X (.Tuple es k pos) (gTup K n t) := by
  subst ek
  exact pg_tup hc h hn hst
theorem pi_enumX {e : Expr} {ta : TA} {p pos tpos : Pos} {elts : List Expr} {kk : Nat} (hg : Gl X "enumerate") (hm : X.mg "enumerate" = none) (ha : PA X [e] ta) (ek : X.K = K := by rfl)
    (hs : starEach [e] X.env = [(false, eval e X.env)] := by rfl) : PI X (.Tuple elts kk tpos) (.Call (.Name "enumerate" p) [e] [] pos) (iEnum K ta) := by
  subst ek
  exact pi_enum hg hm ha hs
theorem pi_zipX {e e2 : Expr} {ta : TA} {p pos tpos : Pos} {elts : List Expr} {kk : Nat} (hg : Gl X "zip") (hm : X.mg "zip" = none) (ha : PA X [e, e2] ta) (ek : X.K = K := by rfl)
    (hs : starEach [e, e2] X.env = (false, eval e X.env) :: starEach [e2] X.env := by rfl) (hpl : (backTo pos (starEach [e2] X.env)).any (·.1) = false := by rfl) :
    PI X (.Tuple elts kk tpos) (.Call (.Name "zip" p) [e, e2] [] pos) (iZip K ta) := by
  subst ek
  exact pi_zip hg hm ha hs hpl
/-- len(set(xs)), xs a list of ints -/
def dist (ns : List Int) : List Int := PyProof.Rows.firstMet (fun i => ns.getD i 0) ns.length
def tLenSetX (K : PySem.W.Frag) (ta : TE) : TE := fun σ H Q => ta σ H fun x H1 => ∃ (l : Addr) (ns : List Int), x = .ref l ∧ SqL K H1 l (ns.map V.int) ∧ ns.length ≤ 4000 ∧ Q (.int ((dist ns).length : Nat)) H1
theorem pe_lenSetX {a : Expr} {ta : TE} {p p2 q pos : Pos} (hg : Gl X "len") (hm : X.mg "len" = none) (hg2 : Gl X "set") (hm2 : X.mg "set" = none) (ha : PE X a ta) (hc : X.calm = true := by rfl) (ek : X.K = K := by rfl)
    (na : starEach [a] X.env = (false, eval a X.env) :: starEach [] X.env := by rfl) : PE X (.Call (.Name "len" p) [.Call (.Name "set" p2) [a] [] q] [] pos) (tLenSetX K ta) := by
  subst ek
  refine ⟨fun pins s σ H Q I h => ?_⟩
  refine Call_ (ld_blt I hg hm boot_len ?_)
  refine PyProof.Rows.callWith_builtin1 (PyProof.Rows.args_cons ?_ rfl) rfl rfl
  refine Call_ (ld_blt I hg2 hm2 boot_set ?_)
  refine PyProof.Rows.callWith_type1 (PyProof.Rows.args_cons (thn (ha.run pins s σ H _ I h) fun v s1 ⟨x, H1, I1, r1, q1⟩ => PyProof.Rows.args_nil ?_) na) na rfl
  obtain ⟨l, ns, rfl, hq, hl, q1⟩ := q1
  cases r1
  obtain ⟨its, r, pl, hz⟩ := I1.list hq
  have hlen : its.toArray.size = ns.length := by rw [List.size_toArray, ← r.length, List.length_map]
  have hb : (dist ns).length ≤ ns.length := firstMet_length_le _ _
  refine call_set_list (I1.ok.hd hc) pl.isList (by simpa using ints_vals r) (by rw [hlen]; unfold scanBound; omega) fun h' tk hS hk => ?_
  refine PyProof.Rows.args_nil ?_
  rw [hlen] at hS
  obtain ⟨o, es, ep, t, ho, hex, hd, _, _, _, hf, hn⟩ := hS
  have hn' : es.size = (dist ns).length := hn
  have I2 : Inv X pins σ H1 { s1 with heap := h', toks := tk } := I1.kept fun b o e => hk b o (Heap.lt_size e) e
  exact call_len_set ho hex hd hf (by rw [hn'] <;> omega) ⟨.int (dist ns).length, H1, I2.tok _, ⟨_, by rw [hn']⟩, q1⟩
theorem callListX (e : X.K = K := by rfl) : CallR X (.type "list") (xList K) := by
  subst e
  exact call_list_of
theorem callTupX (e : X.K = K := by rfl) : CallR X (.type "tuple") (xTup K) := by
  subst e
  exact call_tuple_of
/-- a, b, .. = a tuple or a list of that length -/
def gSeq (K : PySem.W.Frag) (n : Nat) (t : TGs) : TG := fun v σ H Q => gTup K n t v σ H Q ∨ gLst K n t v σ H Q
theorem pg_seqX {es : List Expr} {k : Nat} {t : TGs} {n : Nat} {pos : Pos} (hc : X.calm = true) (h : PGs X es t) (ek : X.K = K := by rfl)
    (hn : (assignEach es X.env).length = n := by rfl) (hst : (assignEach es X.env).findIdx? (·.1) = none := by rfl) : PG X (.Tuple es k pos) (gSeq K n t) := by
  subst ek
  refine ⟨fun pins s σ H v u Q I r hw => ?_⟩
  rcases hw with hw | hw
  · exact (pg_tup hc h hn hst).run pins s σ H v u Q I r hw
  · exact (pg_lst hc h hn hst).run pins s σ H v u Q I r hw
def xStrI : List V → Hp → VK → Prop := fun xs H Q => ∃ i, xs = [.int i] ∧ i.natAbs.log2 < 1920 ∧ Q (.str (toString i)) H
theorem callStrX : CallR X (.type "str") xStrI := call_str_int
theorem pe_revX {e : Expr} {te : TE} {k : Nat} {p1 p2 p3 pos : Pos} (he : PE X e te) (ek : X.K = K := by rfl) : PE X (.Subscript e (.Slice none none (some (.UnaryOp .USub (.Constant (.int 1) k p1) p2)) p3) pos) (tRevL K te) := by
  subst ek
  exact pe_revL he
theorem pa_starX {e : Expr} {es : List Expr} {te : TE} {t : TA} {p : Pos} (he : PE X e te) (hr : PA X es t) (ek : X.K = K := by rfl) (hs : starEach (.Starred e p :: es) X.env = (true, eval e X.env) :: starEach es X.env := by rfl) : PA X (.Starred e p :: es) (StX.tStar K te t) := by
  subst ek
  exact StX.pa_star he hr hs
end
end Mine

/-! ## Readings, step by step -/
namespace Mine
open PySem PySem.Spec PyProof.Rows L2
set_option linter.all false
theorem dec_i {a b : Int} : decide (V.int a = V.int b) = decide (a = b) := by
  rw [Bool.eq_iff_iff]
  simp
theorem dec_s {a b : Str} : decide (V.str a = V.str b) = decide (a = b) := by
  rw [Bool.eq_iff_iff]
  simp
theorem dec_b {a b : Bool} : decide (V.bl a = V.bl b) = (a == b) := by
  cases a <;> cases b <;> rfl
section
variable {σ σ' : St} {H : Hp} {Q : VK} {QB : Bool → Hp → Prop} {QA : List V → Hp → Prop} {QO : Option Int → Hp → Prop} {v x y : V} {i j : Nat} {ta tb tc te : TE} {r r' : R2} {t u : TT} {b : Bool} {K : PySem.W.Frag} {D : Ends} {g : TG} {s s' : TS} {tA tA' : TA} {to tl th : TO}
theorem rd_var (h : σ[i]? = some (some v)) (q : Q v H) : tVar i σ H Q := ⟨v, h, q⟩
theorem rd_c (q : Q v H) : tC v σ H Q := q
theorem rd_op (q : ta σ H fun x H1 => tb σ H1 fun y H2 => r x y H2 Q) : tOp r ta tb σ H Q := q
theorem rd_un {r : V → Hp → VK → Prop} (q : ta σ H fun x H1 => r x H1 Q) : tUn r ta σ H Q := q
theorem rd_test (q : te σ H fun x H' => ∃ k, x = .bl k ∧ QB k H') : tTest te σ H QB := q
theorem rd_tB (q : te σ H fun x H' => ∃ k, x = .bl k ∧ QB k H') : tB te σ H QB := q
theorem rd_bl {QB : Bool → Prop} (q : QB b) : ∃ k, V.bl b = .bl k ∧ QB k := ⟨b, rfl, q⟩
theorem rd_chain (q : ta σ H fun x H1 => tb σ H1 fun y H2 => r x y H2 fun z H3 => ∃ k, z = .bl k ∧ (if k = true then tc σ H3 fun w' H4 => r' y w' H4 Q else Q (.bl false) H3)) : tChain r r' ta tb tc σ H Q := q
theorem rd_ifE (q : t σ H fun c H1 => if c = true then ta σ H1 Q else tb σ H1 Q) : tIf t ta tb σ H Q := q
theorem rd_and (q : t σ H fun c H1 => if c = true then u σ H1 QB else QB false H1) : tAnd t u σ H QB := q
theorem rd_or (q : t σ H fun c H1 => if c = true then QB true H1 else u σ H1 QB) : tOr t u σ H QB := q
theorem rd_not (q : t σ H fun c H1 => QB (!c) H1) : tNot t σ H QB := q
theorem rd_andV (q : ta σ H fun x H1 => ∃ c, x = .bl c ∧ if c = true then tb σ H1 Q else Q (.bl false) H1) : tAndV ta tb σ H Q := q
theorem rd_orV (q : ta σ H fun x H1 => ∃ c, x = .bl c ∧ if c = true then Q (.bl true) H1 else tb σ H1 Q) : tOrV ta tb σ H Q := q
theorem rd_notV (q : ta σ H fun x H1 => ∃ c, x = .bl c ∧ Q (.bl (!c)) H1) : tNotV ta σ H Q := q
theorem rd_nil (q : QA [] H) : tNil σ H QA := q
theorem rd_cons (q : ta σ H fun x H1 => tA σ H1 fun xs H2 => QA (x :: xs) H2) : tCons ta tA σ H QA := q
theorem rd_lst (q : tA σ H fun xs H1 => xs.length ≤ sizeLine ∧ ∀ p, H1 p = none → Q (.ref p) (upd H1 p (.lst xs))) : tLst tA σ H Q := q
theorem rd_tup (q : tA σ H fun xs H1 => xs.length ≤ sizeLine ∧ ∀ p, H1 p = none → Q (.ref p) (upd H1 p (.tup xs))) : tTup tA σ H Q := q
theorem rd_new {A : Prop} {xs : List V} (h : Nat.ble xs.length 100000 = true) (q : A) : xs.length ≤ sizeLine ∧ A := ⟨Nat.le_trans (Nat.le_of_ble_eq_true h) (by decide), q⟩
theorem rd_call {sp : Sp} {ds : List V} {E : XK} (q : tA σ H fun vs H1 => sp (vs ++ ds) H1 Q E) : tCall sp ds E tA σ H Q := q
theorem rd_callK {n m : Nat} {pm : List Nat} {sp : Sp} {E : XK} (q : tA σ H fun vs H1 => tA' σ H1 fun zs H2 => vs.length = n ∧ zs.length = m ∧ sp (gK pm vs zs) H2 Q E) : tCalK n m pm sp E tA tA' σ H Q := q
theorem rd_sp1 {Φ : V → Hp → VK → Prop} {E : XK} {a : V} (q : Φ a H Q) : sp1 Φ ([a] ++ []) H Q E := ⟨a, rfl, q⟩
theorem rd_sp2 {Φ : V → V → Hp → VK → Prop} {E : XK} {a b : V} (q : Φ a b H Q) : sp2 Φ ([a, b] ++ []) H Q E := ⟨a, b, rfl, q⟩
theorem rd_sp3 {Φ : V → V → V → Hp → VK → Prop} {E : XK} {a b c : V} (q : Φ a b c H Q) : sp3 Φ ([a, b, c] ++ []) H Q E := ⟨a, b, c, rfl, q⟩
theorem rd_sp4 {Φ : V → V → V → V → Hp → VK → Prop} {E : XK} {a b c d : V} (q : Φ a b c d H Q) : sp4 Φ ([a, b, c, d] ++ []) H Q E := ⟨a, b, c, d, rfl, q⟩
theorem rd_k {A B C D : Prop} (h : A = True) (h' : B = True) (q : C) : A ∧ B ∧ C := ⟨h ▸ trivial, h' ▸ trivial, q⟩
theorem rd_cb {r : List V → Hp → VK → Prop} (q : tA σ H fun vs H1 => r vs H1 Q) : tCB r tA σ H Q := q
theorem rd_bm0 {T : String} {r : V → List V → Hp → VK → Prop} (q : te σ H fun x H1 => tyV K T x H1 ∧ r x [] H1 Q) : tBM0 K T r te σ H Q := q
theorem rd_bm {T : String} {r : V → List V → Hp → VK → Prop} (q : te σ H fun x H1 => tyV K T x H1 ∧ tA σ H1 fun xs H2 => r x xs H2 Q) : tBM K T r te tA σ H Q := q
theorem rd_m0 {r : V → List V → Hp → VK → Prop} (q : te σ H fun x H1 => (∃ a, x = .str a) ∧ r x [] H1 Q) : tM0 r te σ H Q := q
theorem rd_m1 {r : V → List V → Hp → VK → Prop} (q : te σ H fun x H1 => (∃ a, x = .str a) ∧ ta σ H1 fun y H2 => r x [y] H2 Q) : tM1 r te ta σ H Q := q
theorem rd_tyS {A : Prop} {a : Str} (q : A) : tyV K "str" (.str a) H ∧ A := ⟨rfl, q⟩
theorem rd_isS {A : Prop} {a : Str} (q : A) : (∃ z, V.str a = .str z) ∧ A := ⟨⟨a, rfl⟩, q⟩
theorem rd_tyL {A : Prop} {p : Addr} {xs : List V} (h : SqL K H p xs) (q : A) : tyV K "list" (.ref p) H ∧ A := ⟨.inl ⟨rfl, xs, h⟩, q⟩
theorem rd_sl {r : V → Option Int → Option Int → Hp → VK → Prop} (q : te σ H fun x H1 => tl σ H1 fun l H2 => th σ H2 fun u H3 => r x l u H3 Q) : L2.tSl r te tl th σ H Q := q
theorem rd_noPart (q : QO none H) : tNoPart σ H QO := q
theorem rd_part (q : te σ H fun x H1 => ∃ i, x = .int i ∧ QO (some i) H1) : tPart te σ H QO := q
theorem rd_int {QI : Int → Prop} {n : Int} (q : QI n) : ∃ i, V.int n = .int i ∧ QI i := ⟨n, rfl, q⟩
theorem rd_yes (q : QB true H) : tYes σ H QB := q
/-! statements -/
theorem rd_seq (q : s { D with nx := s' D } σ H) : tSeq s s' D σ H := q
theorem rd_meet (M : St → Hp → Prop) (h : s { D with nx := M } σ H) (k : ∀ σ' H', M σ' H' → s' D σ' H') : tMeet s s' D σ H := ⟨M, h, k⟩
theorem rd_next (q : D.nx σ H) : tNext D σ H := q
theorem rd_brk (q : D.bk σ H) : tBreak D σ H := q
theorem rd_cont (q : D.ct σ H) : tCont D σ H := q
theorem rd_asg (q : te σ H fun x H1 => g x σ H1 D.nx) : tAsg te g D σ H := q
theorem rd_gname {k : St → Hp → Prop} (e : σ.set i (some x) = σ') (q : k σ' H) : gName i x σ H k := by subst e; exact q
theorem rd_gtup {n : Nat} {t : TGs} {a : Addr} {xs : List V} {k : St → Hp → Prop} (h : SqT K H a xs) (e : xs.length = n) (q : t xs σ H k) : gSeq K n t (.ref a) σ H k := .inl ⟨a, xs, rfl, h, e, q⟩
theorem rd_glst {n : Nat} {t : TGs} {a : Addr} {xs : List V} {k : St → Hp → Prop} (h : SqL K H a xs) (e : xs.length = n) (q : t xs σ H k) : gSeq K n t (.ref a) σ H k := .inr ⟨a, xs, rfl, h, e, q⟩
theorem rd_gcons {t : TG} {u : TGs} {vs : List V} {k : St → Hp → Prop} (q : t v σ H fun σ' H' => u vs σ' H' k) : gCons t u (v :: vs) σ H k := ⟨v, vs, rfl, q⟩
theorem rd_gnil {k : St → Hp → Prop} (q : k σ H) : gNil [] σ H k := ⟨rfl, q⟩
theorem rd_gsub {t : TSet} {k : St → Hp → Prop} (q : ta σ H fun o H1 => tb σ H1 fun i H2 => t o i v H2 fun H3 => k σ H3) : gSub ta tb t v σ H k := q
theorem rd_par (q : tA σ H fun vs H1 => ∃ v w, vs = [v, w] ∧ D.nx ((σ.set i (some v)).set j (some w)) H1) : tPar i j tA D σ H := q
theorem rd_par2 {a b : V} (e : (σ.set i (some a)).set j (some b) = σ') (q : D.nx σ' H) : ∃ v w, [a, b] = [v, w] ∧ D.nx ((σ.set i (some v)).set j (some w)) H := ⟨a, b, rfl, by rw [e]; exact q⟩
theorem rd_drop (q : te σ H fun _ H1 => D.nx σ H1) : tDrop te D σ H := q
theorem rd_ret (q : te σ H D.rt) : tRet te D σ H := q
theorem rd_retN (q : D.rt .non H) : tRetN D σ H := q
theorem rd_ifS (q : t σ H fun b H1 => if b = true then s D σ H1 else s' D σ H1) : tIfS t s s' D σ H := q
theorem rd_aug {ti : TIp} (h : σ[i]? = some (some x)) (q : te σ H fun y H1 => ti x y H1 fun z H2 => D.nx (σ.set i (some z)) H2) : tAug i te ti D σ H := ⟨x, h, q⟩
theorem rd_ipI {f : Int → Int → Int} {a b : Int} (q : Q (.int (f a b)) H) : ipI f (.int a) (.int b) H Q := ⟨a, b, rfl, rfl, q⟩
/-! what is asked of values -/
theorem rd_addI {a b : Int} (q : Q (.int (a + b)) H) : xAdd K (.int a) (.int b) H Q := q
theorem rd_addS {a b : Str} (h : a.length + b.length ≤ sizeLine) (q : Q (.str (a ++ b)) H) : xAdd K (.str a) (.str b) H Q := ⟨h, q⟩
theorem rd_subI {a b : Int} (q : Q (.int (a - b)) H) : xSub (.int a) (.int b) H Q := q
theorem rd_mulI {a b : Int} (h : IntMulOk a b) (q : Q (.int (a * b)) H) : xMul K (.int a) (.int b) H Q := ⟨h, q⟩
theorem rd_modI {a b : Int} (h : 0 < b) (q : Q (.int (a % b)) H) : xMod (.int a) (.int b) H Q := ⟨h, q⟩
theorem rd_modL {a b : Int} (h : 0 < b) (q : ∀ z, 0 ≤ z → z < b → Q (.int z) H) : xMod (.int a) (.int b) H Q := ⟨h, q _ (Int.emod_nonneg _ (by omega)) (Int.emod_lt_of_pos _ h)⟩
theorem rd_divI {a b : Int} (h : CDivW a b) (q : Q (.int (a / b)) H) : xDiv (.int a) (.int b) H Q := ⟨h, q⟩
theorem rd_powI {a b : Int} (h : PowOk a b) (q : Q (.int (a ^ b.toNat)) H) : xPow (.int a) (.int b) H Q := ⟨h, q⟩
theorem rd_ltI {a b : Int} (q : Q (.bl (decide (a < b))) H) : xLt (.int a) (.int b) H Q := q
theorem rd_leI {a b : Int} (q : Q (.bl (decide (a ≤ b))) H) : xLe (.int a) (.int b) H Q := q
theorem rd_gtI {a b : Int} (q : Q (.bl (decide (b < a))) H) : xGt (.int a) (.int b) H Q := q
theorem rd_geI {a b : Int} (q : Q (.bl (decide (b ≤ a))) H) : xGe (.int a) (.int b) H Q := q
theorem rd_ltS {a b : Str} (q : Q (.bl (decide (a.cps.toList < b.cps.toList))) H) : xLt (.str a) (.str b) H Q := q
theorem rd_leS {a b : Str} (q : Q (.bl (!decide (b.cps.toList < a.cps.toList))) H) : xLe (.str a) (.str b) H Q := q
theorem rd_gtS {a b : Str} (q : Q (.bl (decide (b.cps.toList < a.cps.toList))) H) : xGt (.str a) (.str b) H Q := q
theorem rd_geS {a b : Str} (q : Q (.bl (!decide (a.cps.toList < b.cps.toList))) H) : xGe (.str a) (.str b) H Q := q
theorem rd_eqI {a b : Int} (q : Q (.bl (decide (a = b))) H) : xEq K (.int a) (.int b) H Q := .inl ⟨rfl, by rw [dec_i]; exact q⟩
theorem rd_eqS {a b : Str} (q : Q (.bl (decide (a = b))) H) : xEq K (.str a) (.str b) H Q := .inl ⟨rfl, by rw [dec_s]; exact q⟩
theorem rd_neI {a b : Int} (q : Q (.bl (!decide (a = b))) H) : xNe K (.int a) (.int b) H Q := .inl ⟨rfl, by rw [dec_i]; exact q⟩
theorem rd_neS {a b : Str} (q : Q (.bl (!decide (a = b))) H) : xNe K (.str a) (.str b) H Q := .inl ⟨rfl, by rw [dec_s]; exact q⟩
theorem rd_eqB {a b : Bool} (q : Q (.bl (a == b)) H) : xEq K (.bl a) (.bl b) H Q := .inl ⟨rfl, by rw [dec_b]; exact q⟩
theorem rd_neB {a b : Bool} (q : Q (.bl (a != b)) H) : xNe K (.bl a) (.bl b) H Q := .inl ⟨rfl, by rw [dec_b]; exact q⟩
theorem rd_inS {a b : Str} (q : Q (.bl (inS a b)) H) : xIn K (.str a) (.str b) H Q := ⟨a, rfl, q⟩
theorem rd_notInS {a b : Str} (q : Q (.bl (!inS a b)) H) : xNotIn K (.str a) (.str b) H Q := ⟨a, rfl, q⟩
theorem rd_inT {p : Addr} {xs : List V} (h : SqT K H p xs) (f : flatV x = true) (f' : xs.all flatV = true) (q : Q (.bl (inV x xs)) H) : xIn K x (.ref p) H Q := .inl ⟨p, xs, rfl, .inr h, f, f', q⟩
theorem rd_inL {p : Addr} {xs : List V} (h : SqL K H p xs) (f : flatV x = true) (f' : xs.all flatV = true) (q : Q (.bl (inV x xs)) H) : xIn K x (.ref p) H Q := .inl ⟨p, xs, rfl, .inl h, f, f', q⟩
theorem rd_notInT {p : Addr} {xs : List V} (h : SqT K H p xs) (f : flatV x = true) (f' : xs.all flatV = true) (q : Q (.bl (!inV x xs)) H) : xNotIn K x (.ref p) H Q := .inl ⟨p, xs, rfl, .inr h, f, f', q⟩
theorem rd_notInL {p : Addr} {xs : List V} (h : SqL K H p xs) (f : flatV x = true) (f' : xs.all flatV = true) (q : Q (.bl (!inV x xs)) H) : xNotIn K x (.ref p) H Q := .inl ⟨p, xs, rfl, .inl h, f, f', q⟩
theorem rd_eqNil {p q : Addr} {xs : List V} (h : SqL K H p xs) (h' : SqL K H q []) (k : Q (.bl xs.isEmpty) H) : xEq K (.ref p) (.ref q) H Q :=
  .inr (.inr ⟨p, q, xs, [], rfl, rfl, h, h', .inr rfl, by cases xs <;> exact k⟩)
theorem rd_neNil {p q : Addr} {xs : List V} (h : SqL K H p xs) (h' : SqL K H q []) (k : Q (.bl (!xs.isEmpty)) H) : xNe K (.ref p) (.ref q) H Q :=
  .inr (.inr ⟨p, q, xs, [], rfl, rfl, h, h', .inr rfl, by cases xs <;> exact k⟩)
theorem rd_eqD {d e : PyData} (hd : Dp K H x d) (he : Dp K H y e) (sd : SeqAt.shaped d = true) (se : SeqAt.shaped e = true) (q : Q (.bl (PyData.eqv d e)) H) : xEq K x y H Q := .inr (.inl ⟨d, e, hd, he, sd, se, q⟩)
theorem rd_neD {d e : PyData} (hd : Dp K H x d) (he : Dp K H y e) (sd : SeqAt.shaped d = true) (se : SeqAt.shaped e = true) (q : Q (.bl (!PyData.eqv d e)) H) : xNe K x y H Q := .inr (.inl ⟨d, e, hd, he, sd, se, q⟩)
theorem rd_is (q : Q (.bl (decide (x = .non))) H) : xIs x .non H Q := .inl ⟨rfl, q⟩
theorem rd_isNot (q : Q (.bl (!decide (x = .non))) H) : xIsNot x .non H Q := .inl ⟨rfl, q⟩
theorem rd_isB {a b : Bool} (q : Q (.bl (decide (a = b))) H) : xIs (.bl a) (.bl b) H Q := .inr ⟨a, b, rfl, rfl, q⟩
theorem rd_notB {a b : Bool} (q : Q (.bl (!decide (a = b))) H) : xIsNot (.bl a) (.bl b) H Q := .inr ⟨a, b, rfl, rfl, q⟩
theorem rd_revL {te : TE} (q : te σ H fun x H1 => ∃ a xs, x = .ref a ∧ SqL K H1 a xs ∧ ∀ p, H1 p = none → Q (.ref p) (upd H1 p (.lst xs.reverse))) : tRevL K te σ H Q := q
theorem rd_rev2 {p : Addr} {xs : List V} (h : SqL K H p xs) (q : ∀ l, H l = none → Q (.ref l) (upd H l (.lst xs.reverse))) : ∃ a xs, V.ref p = .ref a ∧ SqL K H a xs ∧ ∀ p, H p = none → Q (.ref p) (upd H p (.lst xs.reverse)) := ⟨p, xs, rfl, h, q⟩
theorem rd_star {te : TE} (q : te σ H fun y H1 => ∃ a xs, y = .ref a ∧ (SqT K H1 a xs ∨ SqL K H1 a xs) ∧ tA σ H1 fun vs H2 => QA (xs ++ vs) H2) : StX.tStar K te tA σ H QA := q
theorem rd_starL {p : Addr} {xs : List V} {N : List V → Prop} (h : SqL K H p xs) (q : N xs) : ∃ a ys, V.ref p = .ref a ∧ (SqT K H a ys ∨ SqL K H a ys) ∧ N ys := ⟨p, xs, rfl, .inr h, q⟩
theorem rd_starT {p : Addr} {xs : List V} {N : List V → Prop} (h : SqT K H p xs) (q : N xs) : ∃ a ys, V.ref p = .ref a ∧ (SqT K H a ys ∨ SqL K H a ys) ∧ N ys := ⟨p, xs, rfl, .inl h, q⟩
theorem rd_ixL {p : Addr} {xs : List V} {n : Int} (h : SqL K H p xs) (e : atI xs n = some v) (q : Q v H) : xIx K (.ref p) (.int n) H Q := ⟨xs, v, .inl h, e, q⟩
theorem rd_ixT {p : Addr} {xs : List V} {n : Int} (h : SqT K H p xs) (e : atI xs n = some v) (q : Q v H) : xIx K (.ref p) (.int n) H Q := ⟨xs, v, .inr h, e, q⟩
theorem rd_ixLU {p : Addr} {xs : List V} {n : Int} (e : atI xs n = some v) (q : Q v (upd H p (.lst xs))) : xIx K (.ref p) (.int n) (upd H p (.lst xs)) Q := rd_ixL (SqL.of upd_same) e q
theorem rd_ixTU {p : Addr} {xs : List V} {n : Int} (e : atI xs n = some v) (q : Q v (upd H p (.tup xs))) : xIx K (.ref p) (.int n) (upd H p (.tup xs)) Q := rd_ixT (SqT.of upd_same) e q
theorem rd_ixS {z : Str} {n : Int} {c : Nat} (h : z.length ≤ sizeLine) (e : atI z.cps.toList n = some c) (q : Q (.str ⟨#[c]⟩) H) : xIx K (.str z) (.int n) H Q := ⟨c, h, e, q⟩
theorem rd_slS {z : Str} {lo hi : Option Int} (h : z.length ≤ sizeLine) (q : Q (.str (cutS z lo hi)) H) : xSl K (.str z) lo hi H Q := ⟨h, q⟩
theorem rd_slL {p : Addr} {xs : List V} {lo hi : Option Int} (h : SqL K H p xs) (q : ∀ l, H l = none → Q (.ref l) (upd H l (.lst (cutV xs lo hi)))) : xSl K (.ref p) lo hi H Q := .inl ⟨p, xs, rfl, h, q⟩
theorem rd_lenS {z : Str} (h : z.length ≤ sizeLine) (q : Q (.int (z.length : Nat)) H) : xLen K [.str z] H Q := .inl ⟨_, _, rfl, ⟨h, rfl⟩, q⟩
theorem rd_lenL {p : Addr} {xs : List V} (h : SqL K H p xs) (q : Q (.int (xs.length : Nat)) H) : xLen K [.ref p] H Q := .inl ⟨_, _, rfl, .inl ⟨xs, h, rfl⟩, q⟩
theorem rd_lenT {p : Addr} {xs : List V} (h : SqT K H p xs) (q : Q (.int (xs.length : Nat)) H) : xLen K [.ref p] H Q := .inl ⟨_, _, rfl, .inr ⟨xs, h, rfl⟩, q⟩
theorem rd_intI {n : Int} (q : Q (.int n) H) : xInt [.int n] H Q := q
theorem rd_intB (q : Q (.int (if b then 1 else 0)) H) : xInt [.bl b] H Q := q
theorem rd_abs {n : Int} (q : Q (.int (if n < 0 then -n else n)) H) : ∃ i, [V.int n] = [.int i] ∧ Q (.int (if i < 0 then -i else i)) H := ⟨n, rfl, q⟩
theorem rd_max {n m : Int} (q : Q (.int (max n m)) H) : xMax [.int n, .int m] H Q := q
theorem rd_min {n m : Int} (q : Q (.int (min n m)) H) : xMin [.int n, .int m] H Q := q
theorem rd_repr {d : PyData} (h : Dp K H x d) (h' : Shows d) (q : Q (.str d.shown) H) : xRepr K [x] H Q := ⟨x, d, rfl, h, h', q⟩
theorem rd_isi {T : String} {t : Value} (ty : TyX K H x t) (e : PySem.W.kitOne K t (.type T) = some b) (q : Q (.bl b) H) : rIsi K [x, .ty T] H Q := ⟨x, .ty T, t, .type T, b, rfl, .ty T, ty, e, q⟩
theorem rd_isiS {z : Str} (q : Q (.bl true) H) : rIsi K [.str z, .ty "str"] H Q := rd_isi (b := true) (.base (.str z)) (kit_ty (by decide +kernel)) q
theorem rd_isiSN (q : Q (.bl false) H) : rIsi K [.non, .ty "str"] H Q := rd_isi (b := false) (.base .non) (kit_ty (by decide +kernel)) q
theorem rd_isiSI {n : Int} (q : Q (.bl false) H) : rIsi K [.int n, .ty "str"] H Q := rd_isi (b := false) (.base (.int n)) (kit_ty (by decide +kernel)) q
theorem rd_isiSB {c : Bool} (q : Q (.bl false) H) : rIsi K [.bl c, .ty "str"] H Q := rd_isi (b := false) (.base (.bl c)) (kit_ty (by decide +kernel)) q
theorem rd_isiI {n : Int} (q : Q (.bl true) H) : rIsi K [.int n, .ty "int"] H Q := rd_isi (b := true) (.base (.int n)) (kit_ty (by decide +kernel)) q
theorem rd_isiIB {c : Bool} (q : Q (.bl true) H) : rIsi K [.bl c, .ty "int"] H Q := rd_isi (b := true) (.base (.bl c)) (kit_ty (by decide +kernel)) q
theorem rd_isiIN (q : Q (.bl false) H) : rIsi K [.non, .ty "int"] H Q := rd_isi (b := false) (.base .non) (kit_ty (by decide +kernel)) q
theorem rd_isiIS {z : Str} (q : Q (.bl false) H) : rIsi K [.str z, .ty "int"] H Q := rd_isi (b := false) (.base (.str z)) (kit_ty (by decide +kernel)) q
theorem rd_isiB {c : Bool} (q : Q (.bl true) H) : rIsi K [.bl c, .ty "bool"] H Q := rd_isi (b := true) (.base (.bl c)) (kit_ty (by decide +kernel)) q
theorem rd_isiBI {n : Int} (q : Q (.bl false) H) : rIsi K [.int n, .ty "bool"] H Q := rd_isi (b := false) (.base (.int n)) (kit_ty (by decide +kernel)) q
theorem rd_rep {p : Addr} {xs : List V} {n : Int} (h : H p = some (.lst xs)) (h0 : 0 ≤ n) (h1 : n < 1000000) (hz : xs.length * n.toNat ≤ sizeLine) (q : ∀ l, H l = none → Q (.ref l) (upd H l (.lst (List.replicate n.toNat xs).flatten))) : xMul K (.ref p) (.int n) H Q :=
  .inl ⟨p, n, xs, rfl, rfl, h, by omega, by omega, hz, q⟩
theorem rd_repT {p : Addr} {xs : List V} {n : Int} (h : SqT K H p xs) (hn : xs ≠ []) (h0 : 2 ≤ n) (h1 : n ≤ 1000) (hz : xs.length ≤ 1000) (q : ∀ l, H l = none → Q (.ref l) (upd H l (.tup (List.replicate n.toNat xs).flatten))) : xMul K (.ref p) (.int n) H Q :=
  .inr ⟨p, n, xs, rfl, rfl, h, hn, h0, h1, hz, q⟩
theorem rd_inD {p : Addr} {d : PyData} {ds : List PyData} (hd : Dp K H x d) (he : Dp K H (.ref p) (.list ds)) (sd : SeqAt.shaped d = true) (se : SeqAt.shaped (.list ds) = true) (q : Q (.bl (ds.any fun z => PyData.eqv z d)) H) : xIn K x (.ref p) H Q := .inr ⟨d, ds, hd, he, sd, se, q⟩
theorem rd_notInD {p : Addr} {d : PyData} {ds : List PyData} (hd : Dp K H x d) (he : Dp K H (.ref p) (.list ds)) (sd : SeqAt.shaped d = true) (se : SeqAt.shaped (.list ds) = true) (q : Q (.bl (!ds.any fun z => PyData.eqv z d)) H) : xNotIn K x (.ref p) H Q := .inr ⟨d, ds, hd, he, sd, se, q⟩
theorem rd_lenD {p : Addr} {kvs : List (Key × V)} (h : H p = some (.dK kvs)) (q : Q (.int kvs.length) H) : xLen K [.ref p] H Q := .inr ⟨p, kvs, rfl, h, q⟩
theorem rd_catT {p l : Addr} {xs ys : List V} (h : SqT K H p xs) (h' : SqT K H l ys) (hx : xs ≠ []) (hy : ys ≠ []) (hz : xs.length + ys.length ≤ sizeLine) (q : ∀ r, H r = none → Q (.ref r) (upd H r (.tup (xs ++ ys)))) : xAdd K (.ref p) (.ref l) H Q := .inr ⟨p, l, xs, ys, rfl, rfl, h, h', hz, fun e => absurd e hx, fun _ e => absurd e hy, fun _ _ => q⟩
theorem rd_slT {p : Addr} {xs : List V} {lo hi : Option Int} (h : SqT K H p xs) (n : ¬ (HT.sIx xs.length 0 lo = 0 ∧ HT.sIx xs.length xs.length hi = xs.length)) (q : ∀ l, H l = none → Q (.ref l) (upd H l (.tup (cutV xs lo hi)))) : xSl K (.ref p) lo hi H Q := .inr ⟨p, xs, rfl, h, fun c => absurd c n, fun _ => q⟩
theorem rd_slTA {p : Addr} {xs : List V} {lo hi : Option Int} (h : H p = some (.tup xs)) (q : ∀ r H', (∀ a o, H a = some o → H' a = some o) → H' r = some (.tup (cutV xs lo hi)) → (r = p ∧ H' = H) ∨ (H r = none ∧ H' = upd H r (.tup (cutV xs lo hi))) → Q (.ref r) H') : xSl K (.ref p) lo hi H Q := by
  refine .inr ⟨p, xs, rfl, SqT.of h, fun c => ?_, fun _ r hr => ?_⟩
  · refine q p H (fun _ _ e => e) ?_ (.inl ⟨rfl, rfl⟩)
    rw [h]
    unfold cutV
    rw [c.1, c.2, List.drop_zero, Nat.sub_zero, List.take_length]
  · refine q r _ (fun a o e => ?_) upd_same (.inr ⟨hr, rfl⟩)
    rw [upd_ne (ne_of_none e hr)]
    exact e
theorem rd_catTA {p l : Addr} {xs ys : List V} (h : H p = some (.tup xs)) (h' : H l = some (.tup ys)) (hz : xs.length + ys.length ≤ sizeLine) (q : ∀ r H', (∀ a o, H a = some o → H' a = some o) → H' r = some (.tup (xs ++ ys)) → ((r = p ∨ r = l) ∧ H' = H) ∨ (H r = none ∧ H' = upd H r (.tup (xs ++ ys))) → Q (.ref r) H') : xAdd K (.ref p) (.ref l) H Q := by
  refine .inr ⟨p, l, xs, ys, rfl, rfl, SqT.of h, SqT.of h', hz, fun e => ?_, fun _ e => ?_, fun _ _ r hr => q r _ (fun a o e => by rw [upd_ne (ne_of_none e hr)]; exact e) upd_same (.inr ⟨hr, rfl⟩)⟩
  · exact q l H (fun _ _ e => e) (by rw [h', e, List.nil_append]) (.inl ⟨.inr rfl, rfl⟩)
  · exact q p H (fun _ _ e => e) (by rw [h, e, List.append_nil]) (.inl ⟨.inl rfl, rfl⟩)
theorem rd_lenSet {ta : TE} (q : ta σ H fun x H1 => ∃ (l : Addr) (ns : List Int), x = .ref l ∧ SqL K H1 l (ns.map V.int) ∧ ns.length ≤ 4000 ∧ Q (.int ((dist ns).length : Nat)) H1) : tLenSetX K ta σ H Q := q
theorem rd_isiT {p : Addr} {xs : List V} (h : H p = some (.tup xs)) (q : Q (.bl true) H) : rIsi K [.ref p, .ty "tuple"] H Q := rd_isi (b := true) (.base (.tup h)) (kit_ty (by decide +kernel)) q
theorem rd_isiL {p : Addr} {xs : List V} (h : H p = some (.lst xs)) (q : Q (.bl true) H) : rIsi K [.ref p, .ty "list"] H Q := rd_isi (b := true) (.base (.lst h)) (kit_ty (by decide +kernel)) q
theorem rd_mulS {z : Str} {n : Int} (hz : z.length ≤ 16) (hn : n ≤ 1048576) (h0 : 0 ≤ n) (q : Q (.str (Txt.mul z n)) H) : xMul K (.str z) (.int n) H Q := ⟨mulOk_of 16 1048576 hz hn (by omega) (by decide) (by decide), q⟩
theorem rd_catS {p l : Addr} {xs ys : List V} (h : SqL K H p xs) (h' : SqL K H l ys) (hz : xs.length + ys.length ≤ sizeLine) (q : ∀ r, H r = none → Q (.ref r) (upd H r (.lst (xs ++ ys)))) : xAdd K (.ref p) (.ref l) H Q :=
  .inl ⟨p, l, xs, ys, rfl, rfl, h, h', hz, q⟩
theorem rd_cat {p l : Addr} {xs ys : List V} (h : H p = some (.lst xs)) (h' : H l = some (.lst ys)) (hz : xs.length + ys.length ≤ sizeLine) (q : ∀ r, H r = none → Q (.ref r) (upd H r (.lst (xs ++ ys)))) : xAdd K (.ref p) (.ref l) H Q :=
  rd_catS (.of h) (.of h') hz q
theorem rd_wipe {s1 s2 : St} {ws : List Nat} {A : Prop} (h : wipe s1 ws = wipe s2 ws) (q : A) : wipe s1 ws = wipe s2 ws ∧ A := ⟨h, q⟩
theorem rd_split {a b : Str} (h : (b.length == 0) = false) (hz : a.length ≤ 1000000) (q : ∀ p, H p = none → Q (.ref p) (upd H p (.lst ((Txt.split a b).map V.str)))) :
    ∃ a' b', V.str a = .str a' ∧ [V.str b] = [.str b'] ∧ (b'.length == 0) = false ∧ a'.length + 2 ≤ sizeLine ∧ rNewStrs (Txt.split a' b') H Q := ⟨a, b, rfl, rfl, h, Nat.le_trans (Nat.add_le_add_right hz 2) (by decide), q⟩
theorem rd_app {p : Addr} {xs : List V} (h : H p = some (.lst xs)) (l : xs.length < sizeLine) (q : Q .non (upd H p (.lst (xs ++ [x])))) : rAppend (.ref p) [x] H Q := ⟨p, xs, x, rfl, rfl, h, l, q⟩
theorem rd_all {p : Addr} {bs : List Bool} (h : SqL K H p (bs.map V.bl)) (q : Q (.bl (bs.all id)) H) : rAll K [.ref p] H Q := ⟨p, bs, rfl, h, q⟩
theorem rd_any {p : Addr} {bs : List Bool} (h : SqL K H p (bs.map V.bl)) (q : Q (.bl (bs.any id)) H) : rAny K [.ref p] H Q := ⟨p, bs, rfl, h, q⟩
theorem rd_setL {p : Addr} {xs : List V} {n : Int} {j : Nat} {QH : Hp → Prop} (h : H p = some (.lst xs)) (e : ixN xs.length n = some j) (q : QH (upd H p (.lst (xs.set j v)))) : rSetL (.ref p) (.int n) v H QH := ⟨p, xs, n, j, rfl, rfl, h, e, q⟩
theorem rd_setLU {p : Addr} {xs : List V} {n : Int} {j : Nat} {QH : Hp → Prop} (e : ixN xs.length n = some j) (q : QH (upd (upd H p (.lst xs)) p (.lst (xs.set j v)))) : rSetL (.ref p) (.int n) v (upd H p (.lst xs)) QH := rd_setL upd_same e q
theorem rd_ite {A B : Prop} (h1 : b = true → A) (h2 : b = false → B) : if b = true then A else B := by
  cases b with
  | true => exact h1 rfl
  | false => exact h2 rfl
theorem rd_yT {A B : Prop} (h : A) : if true = true then A else B := by rw [if_pos rfl]; exact h
theorem rd_yF {A B : Prop} (h : A) : if (!false) = true then A else B := by rw [if_pos (show (!false) = true from rfl)]; exact h
theorem rd_nF {A B : Prop} (h : B) : if false = true then A else B := by rw [if_neg Bool.false_ne_true]; exact h
theorem rd_nT {A B : Prop} (h : B) : if (!true) = true then A else B := by rw [if_neg (by decide)]; exact h
theorem rd_yesI {A B : Prop} (e : b = true) (h : A) : if b = true then A else B := by rw [if_pos e]; exact h
theorem rd_noI {A B : Prop} (e : b = false) (h : B) : if b = true then A else B := by rw [if_neg (by rw [e]; decide)]; exact h
theorem rd_dput {td ty tv : TE} (q : tv σ H fun v H1 => td σ H1 fun x H2 => ty σ H2 fun y H3 => ∃ a H4, x = .ref a ∧ DPut H3 a y v H4 ∧ D.nx σ H4) : sDPut td ty tv D σ H := q
theorem rd_putI {p : Addr} {kvs : List (Key × V)} {n : Int} {N : Hp → Prop} (h : H p = some (.dK kvs)) (l : kvs.length < sizeLine) (q : N (upd H p (.dK (putK kvs (Sum.inl n) v)))) : ∃ a H4, V.ref p = .ref a ∧ DPut H a (.int n) v H4 ∧ N H4 :=
  ⟨p, _, rfl, DPut.k (k := Sum.inl n) h l, q⟩
theorem rd_putS {p : Addr} {kvs : List (Key × V)} {n : Str} {N : Hp → Prop} (h : H p = some (.dK kvs)) (l : kvs.length < sizeLine) (q : N (upd H p (.dK (putK kvs (Sum.inr n) v)))) : ∃ a H4, V.ref p = .ref a ∧ DPut H a (.str n) v H4 ∧ N H4 :=
  ⟨p, _, rfl, DPut.k (k := Sum.inr n) h l, q⟩
theorem rd_dnew (q : ∀ p, H p = none → Q (.ref p) (upd H p (.dK []))) : tDNewK σ H Q := q
theorem rd_sortDI {p : Addr} {kvs : List (Key × V)} {ks : List Int} (h : H p = some (.dK kvs)) (e : kvs.map (·.1) = ks.map Sum.inl) (l : ks.length < 64) (q : ∀ (ys : List Int) (r : Addr), ys.Perm ks → ys.Pairwise (· ≤ ·) → H r = none → Q (.ref r) (upd H r (.lst (ys.map V.int)))) :
    xSortDI [V.ref p] H Q := ⟨p, kvs, ks, rfl, .of h, e, l, q⟩
theorem rd_tupL {p : Addr} {ys : List V} (h : SqL K H p ys) (q : ∀ l, H l = none → Q (.ref l) (upd H l (.tup ys))) : xTup K [V.ref p] H Q := ⟨p, ys, rfl, .inl ⟨h, q⟩⟩
theorem rd_tupT {p : Addr} {ys : List V} (h : SqT K H p ys) (q : Q (.ref p) H) : xTup K [V.ref p] H Q := ⟨p, ys, rfl, .inr ⟨h, q⟩⟩
theorem rd_lstL {p : Addr} {ys : List V} (h : SqL K H p ys) (q : ∀ l, H l = none → Q (.ref l) (upd H l (.lst ys))) : xList K [V.ref p] H Q := ⟨p, ys, rfl, .inl h, q⟩
theorem rd_lstT {p : Addr} {ys : List V} (h : SqT K H p ys) (q : ∀ l, H l = none → Q (.ref l) (upd H l (.lst ys))) : xList K [V.ref p] H Q := ⟨p, ys, rfl, .inr h, q⟩
/-! loops -/
variable {a : Addr} {xs ys : List V} {z : Str} {tt : TT} {vs : List Nat}
/-- a turn of a while -/
def WhT (m : Nat) (W : Nat → St → Hp → Prop) (s : TS) (D : Ends) (σ : St) (H : Hp) : Prop := ∃ N : St → Hp → Prop, (∀ σ' H', N σ' H' → ∃ m', m' < m ∧ W m' σ' H') ∧ s { D with nx := N, ct := N, bk := D.nx } σ H
/-- while, by a word W over a number that falls -/
theorem rd_while {tc : TT} (W : Nat → St → Hp → Prop) (m0 : Nat) (h0 : W m0 σ H)
    (hs : ∀ m σ H, W m σ H → tc σ H fun b H1 => if b = true then WhT m W s D σ H1 else D.nx σ H1) : tWhile tc s D σ H := ⟨W, ⟨m0, h0⟩, hs⟩
theorem rd_turn {m : Nat} {W : Nat → St → Hp → Prop} (q : s { D with nx := fun σ' H' => ∃ m', m' < m ∧ W m' σ' H', ct := fun σ' H' => ∃ m', m' < m ∧ W m' σ' H', bk := D.nx } σ H) : WhT m W s D σ H := ⟨_, fun _ _ h => h, q⟩
/-- what stands behind the walked thing in a for's reading -/
def ForW (J : It) (g : TG) (tb : TS) (D : Ends) (σ : St) (H : Hp) : Prop := ∃ W : Nat → Nat → St → Hp → Prop, (∃ m, W 0 m σ H) ∧ ∀ i m σ H, W i m σ H →
  (J.stop i H ∧ D.nx σ H) ∨ (J.go i H ∧ ∃ N : St → Hp → Prop, (∀ σ' H', N σ' H' → ∃ m', m' < m ∧ W (i + 1) m' σ' H') ∧ ∀ x H', J.yld i H x H' → g x σ H' fun σ2 H2 => tb { D with nx := N, ct := N, bk := D.nx } σ2 H2)
theorem rd_forL (q : te σ H fun x H1 => ∃ a, x = .ref a ∧ (∃ xs, SqL K H1 a xs) ∧ ForW (Itl K a) g s D σ H1) : tFor (iAny K te) g s D σ H := .inl q
theorem rd_forT (q : te σ H fun x H1 => ∃ a, x = .ref a ∧ (∃ xs, SqT K H1 a xs) ∧ ForW (Itt K a) g s D σ H1) : tFor (iAny K te) g s D σ H := .inr (.inl q)
theorem rd_forS (q : te σ H fun v H1 => ∃ x, v = .str x ∧ ForW (Its x) g s D σ H1) : tFor (iAny K te) g s D σ H := .inr (.inr q)
theorem rd_forR (q : tA σ H fun vs H1 => ∃ j : Int, vs = [.int j] ∧ -(2 ^ 62) ≤ j ∧ j < 2 ^ 62 ∧ ForW (Itr 0 j.toNat) g s D σ H1) : tFor (iRng1 tA) g s D σ H := q
theorem rd_forR2 (q : tA σ H fun vs H1 => ∃ i j : Int, vs = [.int i, .int j] ∧ (-(2 ^ 62) ≤ i ∧ i < 2 ^ 62 ∧ -(2 ^ 62) ≤ j ∧ j < 2 ^ 62) ∧ ForW (Itr i (j - i).toNat) g s D σ H1) : tFor (iRng2 tA) g s D σ H := q
theorem rd_itL (h : SqL K H a xs) (Pv : Nat → St → Hp → Prop) (h0 : Pv 0 σ H) (hl : ∀ i σ H, i ≤ xs.length → Pv i σ H → SqL K H a xs)
    (hs : ∀ i x σ H, xs[i]? = some x → Pv i σ H → g x σ H fun σ2 H2 => s { D with nx := Pv (i + 1), ct := Pv (i + 1), bk := D.nx } σ2 H2) (hd : ∀ σ H, Pv xs.length σ H → D.nx σ H) :
    ∃ b, V.ref a = .ref b ∧ (∃ xs, SqL K H b xs) ∧ ForW (Itl K b) g s D σ H := ⟨a, rfl, ⟨xs, h⟩, for_list Pv h0 hl hs hd⟩
theorem rd_itT (h : SqT K H a xs) (Pv : Nat → St → Hp → Prop) (h0 : Pv 0 σ H) (hl : ∀ i σ H, i ≤ xs.length → Pv i σ H → SqT K H a xs)
    (hs : ∀ i x σ H, xs[i]? = some x → Pv i σ H → g x σ H fun σ2 H2 => s { D with nx := Pv (i + 1), ct := Pv (i + 1), bk := D.nx } σ2 H2) (hd : ∀ σ H, Pv xs.length σ H → D.nx σ H) :
    ∃ b, V.ref a = .ref b ∧ (∃ xs, SqT K H b xs) ∧ ForW (Itt K b) g s D σ H := ⟨a, rfl, ⟨xs, h⟩, for_tup Pv h0 hl hs hd⟩
theorem rd_itS (Pv : Nat → St → Hp → Prop) (h0 : Pv 0 σ H)
    (hs : ∀ i c σ H, z.cps[i]? = some c → Pv i σ H → g (.str ⟨#[c]⟩) σ H fun σ2 H2 => s { D with nx := Pv (i + 1), ct := Pv (i + 1), bk := D.nx } σ2 H2) (hd : ∀ σ H, Pv z.cps.size σ H → D.nx σ H) :
    ∃ x, V.str z = .str x ∧ ForW (Its x) g s D σ H := by
  refine ⟨z, rfl, for_it walk_str Pv h0 (fun _ _ _ _ _ => trivial) ?_ hd⟩
  rintro i x σ1 H1 H2 hi hP ⟨rfl, c, hc, rfl⟩
  exact hs i c σ1 H2 hc hP
theorem rd_itR {n : Int} (b0 : -(2 ^ 62) ≤ n) (b1 : n < 2 ^ 62) (Pv : Nat → St → Hp → Prop) (h0 : Pv 0 σ H)
    (hs : ∀ (i : Nat) σ H, (i : Int) < n → Pv i σ H → g (.int (i : Int)) σ H fun σ2 H2 => s { D with nx := Pv (i + 1), ct := Pv (i + 1), bk := D.nx } σ2 H2) (hd : ∀ σ H, Pv n.toNat σ H → D.nx σ H) :
    ∃ j : Int, [V.int n] = [.int j] ∧ -(2 ^ 62) ≤ j ∧ j < 2 ^ 62 ∧ ForW (Itr 0 j.toNat) g s D σ H := by
  refine ⟨n, rfl, b0, b1, for_range Pv h0 ?_ hd⟩
  intro i σ1 H1 hi hP
  rw [Int.zero_add]
  exact hs i σ1 H1 (by omega) hP
theorem rd_itR2 {m n : Int} (b : -(2 ^ 62) ≤ m ∧ m < 2 ^ 62 ∧ -(2 ^ 62) ≤ n ∧ n < 2 ^ 62) (Pv : Nat → St → Hp → Prop) (h0 : Pv 0 σ H)
    (hs : ∀ (i : Nat) σ H, m + (i : Int) < n → Pv i σ H → g (.int (m + (i : Int))) σ H fun σ2 H2 => s { D with nx := Pv (i + 1), ct := Pv (i + 1), bk := D.nx } σ2 H2) (hd : ∀ σ H, Pv (n - m).toNat σ H → D.nx σ H) :
    ∃ i j : Int, [V.int m, V.int n] = [.int i, .int j] ∧ (-(2 ^ 62) ≤ i ∧ i < 2 ^ 62 ∧ -(2 ^ 62) ≤ j ∧ j < 2 ^ 62) ∧ ForW (Itr i (j - i).toNat) g s D σ H :=
  ⟨m, n, rfl, b, for_range Pv h0 (fun i σ1 H1 hi hP => hs i σ1 H1 (by omega) hP) hd⟩
theorem rd_forE (q : tA σ H fun vs H1 => ∃ a xs, vs = [.ref a] ∧ SqL K H1 a xs ∧ ForW (Ite K a) g s D σ H1) : tFor (iEnum K tA) g s D σ H := q
theorem rd_forZ (q : tA σ H fun vs H1 => ∃ a b xs ys, vs = [.ref a, .ref b] ∧ SqL K H1 a xs ∧ SqL K H1 b ys ∧ ForW (Itz K a b) g s D σ H1) : tFor (iZip K tA) g s D σ H := q
theorem rd_itE (h : SqL K H a xs) (Pv : Nat → St → Hp → Prop) (h0 : Pv 0 σ H) (hl : ∀ i σ H, i ≤ xs.length → Pv i σ H → SqL K H a xs)
    (hs : ∀ i x T σ H, xs[i]? = some x → Pv i σ H → H T = none → g (.ref T) σ (upd H T (.tup [.int (i : Int), x])) fun σ2 H2 => s { D with nx := Pv (i + 1), ct := Pv (i + 1), bk := D.nx } σ2 H2) (hd : ∀ σ H, Pv xs.length σ H → D.nx σ H) :
    ∃ b ys, [V.ref a] = [.ref b] ∧ SqL K H b ys ∧ ForW (Ite K b) g s D σ H := by
  refine ⟨a, xs, rfl, h, for_it walk_enum Pv h0 hl ?_ hd⟩
  rintro i x σ1 H1 H2 hi hP ⟨T, u, y, rfl, hT, rfl, hu, hy⟩
  cases hu
  exact hs i y T σ1 H1 hy hP hT
theorem rd_itZ {b : Addr} (h : SqL K H a xs) (h' : SqL K H b ys) {n : Nat} (hn : n = min xs.length ys.length) (Pv : Nat → St → Hp → Prop) (h0 : Pv 0 σ H) (hl : ∀ i σ H, i ≤ n → Pv i σ H → SqL K H a xs ∧ SqL K H b ys)
    (hs : ∀ i x y T σ H, xs[i]? = some x → ys[i]? = some y → Pv i σ H → H T = none → g (.ref T) σ (upd H T (.tup [x, y])) fun σ2 H2 => s { D with nx := Pv (i + 1), ct := Pv (i + 1), bk := D.nx } σ2 H2) (hd : ∀ σ H, Pv n σ H → D.nx σ H) :
    ∃ c d us vs, [V.ref a, V.ref b] = [.ref c, .ref d] ∧ SqL K H c us ∧ SqL K H d vs ∧ ForW (Itz K c d) g s D σ H := by
  refine ⟨a, b, xs, ys, rfl, h, h', for_it (walk_zip hn) Pv h0 hl ?_ hd⟩
  rintro i x σ1 H1 H2 hi hP ⟨T, u, y, rfl, hT, rfl, hu, hy⟩
  exact hs i u y T σ1 H1 hu hy hP hT
/-- what stands behind the walked thing in a comprehension's reading -/
def LcW (J : It) (g : TG) (tt : TT) (te : TE) (vs : List Nat) (σ : St) (H1 : Hp) (Q : VK) : Prop := ∀ D, H1 D = none → ∃ W : Nat → Nat → Hp → Prop, (∃ m, W 0 m (upd H1 D (.lst []))) ∧ ∀ i m H, W i m H →
  (J.stop i H ∧ Q (.ref D) H) ∨ (J.go i H ∧ ∃ Nx : Hp → Prop, (∀ H', Nx H' → ∃ m', m' < m ∧ W (i + 1) m' H') ∧ ∀ x H', J.yld i H x H' → g x (wipe σ vs) H' fun σ2 H2 => wipe σ2 vs = wipe σ vs ∧ tt σ2 H2 fun b H3 =>
    if b = true then te σ2 H3 fun y H4 => ∃ acc, H4 D = some (.lst acc) ∧ acc.length < sizeLine ∧ Nx (upd H4 D (.lst (acc ++ [y]))) else Nx H3)
theorem rd_lcL (q : ta σ H fun x H1 => ∃ a, x = .ref a ∧ (∃ xs, SqL K H1 a xs) ∧ LcW (Itl K a) g tt te vs σ H1 Q) : tLc (iAny K ta) g tt te vs σ H Q := .inl q
theorem rd_lcT (q : ta σ H fun x H1 => ∃ a, x = .ref a ∧ (∃ xs, SqT K H1 a xs) ∧ LcW (Itt K a) g tt te vs σ H1 Q) : tLc (iAny K ta) g tt te vs σ H Q := .inr (.inl q)
theorem rd_lcS (q : ta σ H fun x H1 => ∃ z, x = .str z ∧ LcW (Its z) g tt te vs σ H1 Q) : tLc (iAny K ta) g tt te vs σ H Q := .inr (.inr q)
theorem rd_lcR (q : tA σ H fun ws H1 => ∃ j : Int, ws = [.int j] ∧ -(2 ^ 62) ≤ j ∧ j < 2 ^ 62 ∧ LcW (Itr 0 j.toNat) g tt te vs σ H1 Q) : tLc (iRng1 tA) g tt te vs σ H Q := q
theorem rd_lcR2 (q : tA σ H fun ws H1 => ∃ i j : Int, ws = [.int i, .int j] ∧ (-(2 ^ 62) ≤ i ∧ i < 2 ^ 62 ∧ -(2 ^ 62) ≤ j ∧ j < 2 ^ 62) ∧ LcW (Itr i (j - i).toNat) g tt te vs σ H1 Q) : tLc (iRng2 tA) g tt te vs σ H Q := q
/-- one turn of a comprehension: the target, the test, the element, the list grown at D -/
def LcT (g : TG) (tt : TT) (te : TE) (vs : List Nat) (σ : St) (D : Addr) (N : Hp → Prop) (x : V) (H : Hp) : Prop :=
  g x (wipe σ vs) H fun σ2 H2 => wipe σ2 vs = wipe σ vs ∧ tt σ2 H2 fun b H3 => if b = true then te σ2 H3 fun y H4 => ∃ acc, H4 D = some (.lst acc) ∧ acc.length < sizeLine ∧ N (upd H4 D (.lst (acc ++ [y]))) else N H3
theorem rd_lcT1 {D : Addr} {N : Hp → Prop} (q : g x (wipe σ vs) H fun σ2 H2 => wipe σ2 vs = wipe σ vs ∧ tt σ2 H2 fun b H3 => if b = true then te σ2 H3 fun y H4 => ∃ acc, H4 D = some (.lst acc) ∧ acc.length < sizeLine ∧ N (upd H4 D (.lst (acc ++ [y]))) else N H3) :
    LcT g tt te vs σ D N x H := q
/-- what holds between two turns: what stands stays by R, the list at D is what A says -/
theorem lc_by {J : It} {n : Nat} {G : Hp → Prop} {Y : Nat → Hp → V → Hp → Prop} (w : Walk J n G Y) (Pv : Addr → Nat → Hp → Prop) (h0 : ∀ D, H D = none → Pv D 0 (upd H D (.lst []))) (hG : ∀ D i H', H D = none → i ≤ n → Pv D i H' → G H')
    (hs : ∀ D i x H1 H2, H D = none → i < n → Pv D i H1 → Y i H1 x H2 → LcT g tt te vs σ D (Pv D (i + 1)) x H2) (hd : ∀ D H', H D = none → Pv D n H' → Q (.ref D) H') : LcW J g tt te vs σ H Q := by
  intro D hD
  exact lc_it w (Pv D) (h0 D hD) (fun i H' hi hP => hG D i H' hD hi hP) (fun i x H1 H2 hi hP hY => hs D i x H1 H2 hD hi hP hY) fun H' hP => hd D H' hD hP
theorem rd_clL (h : SqL K H a xs) (Pv : Addr → Nat → Hp → Prop) (h0 : ∀ D, H D = none → Pv D 0 (upd H D (.lst []))) (hG : ∀ D i H', H D = none → i ≤ xs.length → Pv D i H' → SqL K H' a xs)
    (hs : ∀ D i x H', H D = none → xs[i]? = some x → Pv D i H' → LcT g tt te vs σ D (Pv D (i + 1)) x H') (hd : ∀ D H', H D = none → Pv D xs.length H' → Q (.ref D) H') :
    ∃ b, V.ref a = .ref b ∧ (∃ xs, SqL K H b xs) ∧ LcW (Itl K b) g tt te vs σ H Q := by
  refine ⟨a, rfl, ⟨xs, h⟩, lc_by walk_list Pv h0 hG ?_ hd⟩
  rintro D i x H1 H2 hD hi hP ⟨rfl, hx⟩
  exact hs D i x H2 hD hx hP
theorem rd_clT (h : SqT K H a xs) (Pv : Addr → Nat → Hp → Prop) (h0 : ∀ D, H D = none → Pv D 0 (upd H D (.lst []))) (hG : ∀ D i H', H D = none → i ≤ xs.length → Pv D i H' → SqT K H' a xs)
    (hs : ∀ D i x H', H D = none → xs[i]? = some x → Pv D i H' → LcT g tt te vs σ D (Pv D (i + 1)) x H') (hd : ∀ D H', H D = none → Pv D xs.length H' → Q (.ref D) H') :
    ∃ b, V.ref a = .ref b ∧ (∃ xs, SqT K H b xs) ∧ LcW (Itt K b) g tt te vs σ H Q := by
  refine ⟨a, rfl, ⟨xs, h⟩, lc_by walk_tup Pv h0 hG ?_ hd⟩
  rintro D i x H1 H2 hD hi hP ⟨rfl, hx⟩
  exact hs D i x H2 hD hx hP
/-! dict comprehensions over a list -/
def DcT (g : TG) (tt : TT) (tk tv : TE) (vs : List Nat) (σ : St) (D : Addr) (N : Hp → Prop) (x : V) (H : Hp) : Prop :=
  g x (wipe σ vs) H fun σ2 H2 => wipe σ2 vs = wipe σ vs ∧ tt σ2 H2 fun b H3 => if b = true then tk σ2 H3 fun y H4 => tv σ2 H4 fun z H5 => ∃ kvs k, y = kV k ∧ H5 D = some (.dK kvs) ∧ kvs.length < sizeLine ∧ N (upd H5 D (.dK (putK kvs k z))) else N H3
theorem rd_dcT1 {tk tv : TE} {D : Addr} {N : Hp → Prop} (q : g x (wipe σ vs) H fun σ2 H2 => wipe σ2 vs = wipe σ vs ∧ tt σ2 H2 fun b H3 => if b = true then tk σ2 H3 fun y H4 => tv σ2 H4 fun z H5 => ∃ kvs k, y = kV k ∧ H5 D = some (.dK kvs) ∧ kvs.length < sizeLine ∧ N (upd H5 D (.dK (putK kvs k z))) else N H3) :
    DcT g tt tk tv vs σ D N x H := q
def DcW (J : It) (g : TG) (tt : TT) (tk tv : TE) (vs : List Nat) (σ : St) (H1 : Hp) (Q : VK) : Prop := ∀ D, H1 D = none → ∃ W : Nat → Nat → Hp → Prop, (∃ m, W 0 m (upd H1 D (.dK []))) ∧ ∀ i m H, W i m H →
  (J.stop i H ∧ Q (.ref D) H) ∨ (J.go i H ∧ ∃ Nx : Hp → Prop, (∀ H', Nx H' → ∃ m', m' < m ∧ W (i + 1) m' H') ∧ ∀ x H', J.yld i H x H' → DcT g tt tk tv vs σ D Nx x H')
theorem rd_dcL {tk tv : TE} (q : ta σ H fun x H1 => ∃ a, x = .ref a ∧ (∃ xs, SqL K H1 a xs) ∧ DcW (Itl K a) g tt tk tv vs σ H1 Q) : tDc (iAny K ta) g tt tk tv vs σ H Q := .inl q
theorem rd_ddL {tk tv : TE} (h : SqL K H a xs) (Pv : Addr → Nat → Hp → Prop) (h0 : ∀ D, H D = none → Pv D 0 (upd H D (.dK []))) (hG : ∀ D i H', H D = none → i ≤ xs.length → Pv D i H' → SqL K H' a xs)
    (hs : ∀ D i x H', H D = none → xs[i]? = some x → Pv D i H' → DcT g tt tk tv vs σ D (Pv D (i + 1)) x H') (hd : ∀ D H', H D = none → Pv D xs.length H' → Q (.ref D) H') :
    ∃ b, V.ref a = .ref b ∧ (∃ xs, SqL K H b xs) ∧ DcW (Itl K b) g tt tk tv vs σ H Q := by
  refine ⟨a, rfl, ⟨xs, h⟩, fun D hD => ⟨fun i m H' => m = xs.length - i ∧ i ≤ xs.length ∧ Pv D i H', ⟨xs.length, by simp, Nat.zero_le _, h0 D hD⟩, ?_⟩⟩
  rintro i m H' ⟨rfl, hi, p⟩
  have q := hG D i H' hD hi p
  have w := walk_list (K := K) (a := a) (xs := xs)
  by_cases hlt : i < xs.length
  · refine .inr ⟨w.goes i H' hlt q, Pv D (i + 1), fun H2 p' => ⟨xs.length - (i + 1), by omega, rfl, hlt, p'⟩, fun x H2 y => ?_⟩
    obtain ⟨e, hx⟩ := w.yields i H' x H2 hlt q y
    subst e
    exact hs D i x _ hD hx p
  · have e : i = xs.length := by omega
    subst e
    exact .inl ⟨w.stops H' q, hd D H' hD p⟩
theorem rd_lcE (q : tA σ H fun ws H1 => ∃ a xs, ws = [.ref a] ∧ SqL K H1 a xs ∧ LcW (Ite K a) g tt te vs σ H1 Q) : tLc (iEnum K tA) g tt te vs σ H Q := q
theorem rd_lcZ (q : tA σ H fun ws H1 => ∃ a b xs ys, ws = [.ref a, .ref b] ∧ SqL K H1 a xs ∧ SqL K H1 b ys ∧ LcW (Itz K a b) g tt te vs σ H1 Q) : tLc (iZip K tA) g tt te vs σ H Q := q
theorem rd_clE (h : SqL K H a xs) (Pv : Addr → Nat → Hp → Prop) (h0 : ∀ D, H D = none → Pv D 0 (upd H D (.lst []))) (hG : ∀ D i H', H D = none → i ≤ xs.length → Pv D i H' → SqL K H' a xs)
    (hs : ∀ D i x T H', H D = none → xs[i]? = some x → Pv D i H' → H' T = none → LcT g tt te vs σ D (Pv D (i + 1)) (.ref T) (upd H' T (.tup [.int (i : Int), x]))) (hd : ∀ D H', H D = none → Pv D xs.length H' → Q (.ref D) H') :
    ∃ b ys, [V.ref a] = [.ref b] ∧ SqL K H b ys ∧ LcW (Ite K b) g tt te vs σ H Q := by
  refine ⟨a, xs, rfl, h, lc_by walk_enum Pv h0 hG ?_ hd⟩
  rintro D i x H1 H2 hD hi hP ⟨T, u, y, rfl, hT, rfl, hu, hy⟩
  cases hu
  exact hs D i y T H1 hD hy hP hT
theorem rd_clZ {b : Addr} (h : SqL K H a xs) (h' : SqL K H b ys) {n : Nat} (hn : n = min xs.length ys.length) (Pv : Addr → Nat → Hp → Prop) (h0 : ∀ D, H D = none → Pv D 0 (upd H D (.lst []))) (hG : ∀ D i H', H D = none → i ≤ n → Pv D i H' → SqL K H' a xs ∧ SqL K H' b ys)
    (hs : ∀ D i x y T H', H D = none → xs[i]? = some x → ys[i]? = some y → Pv D i H' → H' T = none → LcT g tt te vs σ D (Pv D (i + 1)) (.ref T) (upd H' T (.tup [x, y]))) (hd : ∀ D H', H D = none → Pv D n H' → Q (.ref D) H') :
    ∃ c d us ws, [V.ref a, V.ref b] = [.ref c, .ref d] ∧ SqL K H c us ∧ SqL K H d ws ∧ LcW (Itz K c d) g tt te vs σ H Q := by
  refine ⟨a, b, xs, ys, rfl, h, h', lc_by (walk_zip hn) Pv h0 hG ?_ hd⟩
  rintro D i x H1 H2 hD hi hP ⟨T, u, y, rfl, hT, rfl, hu, hy⟩
  exact hs D i u y T H1 hD hu hy hP hT
theorem rd_clS (Pv : Addr → Nat → Hp → Prop) (h0 : ∀ D, H D = none → Pv D 0 (upd H D (.lst [])))
    (hs : ∀ D i c H', H D = none → z.cps[i]? = some c → Pv D i H' → LcT g tt te vs σ D (Pv D (i + 1)) (.str ⟨#[c]⟩) H') (hd : ∀ D H', H D = none → Pv D z.cps.size H' → Q (.ref D) H') :
    ∃ y, V.str z = .str y ∧ LcW (Its y) g tt te vs σ H Q := by
  refine ⟨z, rfl, lc_by walk_str Pv h0 (fun _ _ _ _ _ _ => trivial) ?_ hd⟩
  rintro D i x H1 H2 hD hi hP ⟨rfl, c, hc, rfl⟩
  exact hs D i c H2 hD hc hP
theorem rd_clR {n : Int} (b0 : -(2 ^ 62) ≤ n) (b1 : n < 2 ^ 62) (Pv : Addr → Nat → Hp → Prop) (h0 : ∀ D, H D = none → Pv D 0 (upd H D (.lst [])))
    (hs : ∀ D (i : Nat) H', H D = none → (i : Int) < n → Pv D i H' → LcT g tt te vs σ D (Pv D (i + 1)) (.int (i : Int)) H') (hd : ∀ D H', H D = none → Pv D n.toNat H' → Q (.ref D) H') :
    ∃ j : Int, [V.int n] = [.int j] ∧ -(2 ^ 62) ≤ j ∧ j < 2 ^ 62 ∧ LcW (Itr 0 j.toNat) g tt te vs σ H Q := by
  refine ⟨n, rfl, b0, b1, lc_by walk_range Pv h0 (fun _ _ _ _ _ _ => trivial) ?_ hd⟩
  rintro D i x H1 H2 hD hi hP ⟨rfl, rfl⟩
  show LcT g tt te vs σ D (Pv D (i + 1)) (V.int (0 + (i : Int))) H2
  rw [Int.zero_add]
  exact hs D i H2 hD (by omega) hP
theorem rd_clR2 {m n : Int} (b : -(2 ^ 62) ≤ m ∧ m < 2 ^ 62 ∧ -(2 ^ 62) ≤ n ∧ n < 2 ^ 62) (Pv : Addr → Nat → Hp → Prop) (h0 : ∀ D, H D = none → Pv D 0 (upd H D (.lst [])))
    (hs : ∀ D (i : Nat) H', H D = none → m + (i : Int) < n → Pv D i H' → LcT g tt te vs σ D (Pv D (i + 1)) (.int (m + (i : Int))) H') (hd : ∀ D H', H D = none → Pv D (n - m).toNat H' → Q (.ref D) H') :
    ∃ i j : Int, [V.int m, V.int n] = [.int i, .int j] ∧ (-(2 ^ 62) ≤ i ∧ i < 2 ^ 62 ∧ -(2 ^ 62) ≤ j ∧ j < 2 ^ 62) ∧ LcW (Itr i (j - i).toNat) g tt te vs σ H Q := by
  refine ⟨m, n, rfl, b, lc_by walk_range Pv h0 (fun _ _ _ _ _ _ => trivial) ?_ hd⟩
  rintro D i x H1 H2 hD hi hP ⟨rfl, rfl⟩
  exact hs D i H2 hD (by omega) hP
end
end Mine

/-! ## Texts and drawn things -/
namespace Mine
open PySem PySem.Spec PyProof.Rows L2
open TL (tl spl pre spl_nil spl_hit spl_miss split_spl)
set_option linter.all false
theorem len_tl (z : Str) : (tl z).length = z.length := by
  show z.cps.toList.length = z.cps.size
  simp
theorem str_ext {a b : Str} (h : tl a = tl b) : a = b := by
  obtain ⟨⟨a⟩⟩ := a
  obtain ⟨⟨b⟩⟩ := b
  have h' : a = b := h
  rw [h']
theorem tl_app (a b : Str) : tl (a ++ b) = tl a ++ tl b := by
  show (a ++ b).cps.toList = _
  rw [show (a ++ b).cps = a.cps ++ b.cps from rfl, Array.toList_append]
theorem len_app (a b : Str) : (a ++ b).length = a.length + b.length := by rw [← len_tl, tl_app, List.length_append, len_tl, len_tl]
theorem tl_cut (z : Str) (lo hi : Option Int) : tl (cutS z lo hi) = ((tl z).drop (HT.sIx z.length 0 lo)).take (HT.sIx z.length z.length hi - HT.sIx z.length 0 lo) := by
  show (cutS z lo hi).cps.toList = _
  unfold cutS
  simp
theorem tl_take (z : Str) (k : Nat) : tl (cutS z none (some (k : Int))) = (tl z).take k := by
  rw [tl_cut, HT.sIx_none, List.drop_zero, Nat.sub_zero, HT.sIx_nat]
  by_cases h : k ≤ z.length
  · rw [Nat.min_eq_left h]
  · rw [Nat.min_eq_right (by omega), List.take_of_length_le (by rw [len_tl]; exact Nat.le_refl _), List.take_of_length_le (by rw [len_tl]; omega)]
theorem tl_drop (z : Str) (k : Nat) : tl (cutS z (some (k : Int)) none) = (tl z).drop k := by
  rw [tl_cut, HT.sIx_none, HT.sIx_nat]
  by_cases h : k ≤ z.length
  · rw [Nat.min_eq_left h, List.take_of_length_le (by rw [List.length_drop, len_tl]; exact Nat.le_refl _)]
  · rw [Nat.min_eq_right (by omega), List.drop_of_length_le (by rw [len_tl]; exact Nat.le_refl _), List.take_nil, List.drop_of_length_le (by rw [len_tl]; omega)]
theorem cut_take {z : Str} {i : Int} (h0 : 0 ≤ i) : (cutS z none (some i)).length = min i.toNat z.length := by
  obtain ⟨k, rfl⟩ : ∃ k : Nat, i = (k : Int) := ⟨i.toNat, by omega⟩
  rw [← len_tl, tl_take, List.length_take, len_tl]
  rfl
theorem cut_drop {z : Str} {i : Int} (h0 : 0 ≤ i) : (cutS z (some i) none).length = z.length - i.toNat := by
  obtain ⟨k, rfl⟩ : ∃ k : Nat, i = (k : Int) := ⟨i.toNat, by omega⟩
  rw [← len_tl, tl_drop, List.length_drop, len_tl]
  rfl
/-- a text of at most so many signs -/
def strLe (L : Nat) : V → Bool
  | .str z => decide (z.length ≤ L)
  | _ => false
theorem strLe_str {L : Nat} {x : V} (h : strLe L x = true) : ∃ z, x = .str z ∧ z.length ≤ L := by
  cases x with
  | str z => exact ⟨z, rfl, of_decide_eq_true h⟩
  | _ => cases h
theorem atI_mem {xs : List V} {v : Int} (h0 : 0 ≤ v) (h1 : v < xs.length) : ∃ x, x ∈ xs ∧ atI xs v = some x := by
  obtain ⟨j, rfl⟩ : ∃ j : Nat, v = (j : Int) := ⟨v.toNat, by omega⟩
  have hj : j < xs.length := by omega
  exact ⟨xs[j], List.getElem_mem hj, atI_nat (List.getElem?_eq_getElem hj)⟩
/-- an item of a list, whichever -/
theorem pick {K : PySem.W.Frag} {p : Addr} {xs : List V} {v : Int} {H : Hp} {Q : VK} (h : SqL K H p xs) (h0 : 0 ≤ v) (h1 : v < xs.length) (q : ∀ x, x ∈ xs → Q x H) : xIx K (.ref p) (.int v) H Q := by
  obtain ⟨x, hx, e⟩ := atI_mem h0 h1
  exact rd_ixL h e (q x hx)
theorem pickT {K : PySem.W.Frag} {p : Addr} {xs : List V} {v : Int} {H : Hp} {Q : VK} (h : SqT K H p xs) (h0 : 0 ≤ v) (h1 : v < xs.length) (q : ∀ x, x ∈ xs → Q x H) : xIx K (.ref p) (.int v) H Q := by
  obtain ⟨x, hx, e⟩ := atI_mem h0 h1
  exact rd_ixT h e (q x hx)
theorem pickS {K : PySem.W.Frag} {p : Addr} {xs : List V} {v : Int} {H : Hp} {Q : VK} (L : Nat) (h : SqL K H p xs) (h0 : 0 ≤ v) (h1 : v < xs.length) (hL : xs.all (strLe L) = true) (q : ∀ z, z.length ≤ L → Q (.str z) H) : xIx K (.ref p) (.int v) H Q := by
  refine pick h h0 h1 fun x hx => ?_
  obtain ⟨z, rfl, hz⟩ := strLe_str (List.all_eq_true.mp hL x hx)
  exact q z hz
theorem join_le (sep : Str) (ys : List Str) (L : Nat) (h : ∀ y ∈ ys, y.length ≤ L) : (ys.map (·.length)).sum ≤ ys.length * L := by
  induction ys with
  | nil => exact Nat.zero_le _
  | cons y ys ih =>
    have h1 := h y List.mem_cons_self
    have h2 := ih fun z hz => h z (List.mem_cons_of_mem _ hz)
    rw [List.map_cons, List.sum_cons, List.length_cons, Nat.add_mul, Nat.one_mul]
    omega
theorem len_join (sep : Str) (ys : List Str) : (Txt.join sep ys).length ≤ (ys.map (·.length)).sum + ys.length * sep.length := by
  show (Builtin.Str.glued sep ys).length ≤ _
  rw [StrLaws.glued_eq_join]
  exact StrLaws.join_length_le sep ys
theorem spl_len {S : List Nat} : ∀ (l : List Nat) (k : Nat) (acc : List Nat), (∀ p ∈ spl S k acc l, p.length ≤ acc.length + l.length) ∧ (spl S k acc l).length ≤ l.length + 1
  | [], k, acc => by
    rw [spl_nil]
    exact ⟨fun p hp => by rw [List.mem_singleton.mp hp]; exact Nat.le_add_right _ _, Nat.le_refl _⟩
  | c :: r, 0, acc => by
    cases h : pre S (c :: r) with
    | true =>
      rw [spl_hit h]
      obtain ⟨h1, h2⟩ := spl_len (S := S) r (S.length - 1) []
      refine ⟨fun p hp => ?_, by rw [List.length_cons, List.length_cons]; omega⟩
      rcases List.mem_cons.mp hp with rfl | hp
      · exact Nat.le_add_right _ _
      · have := h1 p hp
        rw [List.length_nil] at this
        rw [List.length_cons]
        omega
    | false =>
      rw [spl_miss h]
      obtain ⟨h1, h2⟩ := spl_len (S := S) r 0 (acc ++ [c])
      refine ⟨fun p hp => ?_, by rw [List.length_cons]; omega⟩
      have := h1 p hp
      rw [List.length_append, List.length_singleton] at this
      rw [List.length_cons]
      omega
  | c :: r, k + 1, acc => by
    show (∀ p ∈ spl S k acc r, _) ∧ (spl S k acc r).length ≤ _
    obtain ⟨h1, h2⟩ := spl_len (S := S) r k acc
    refine ⟨fun p hp => ?_, by rw [List.length_cons]; omega⟩
    have := h1 p hp
    rw [List.length_cons]
    omega
/-- the parts of a text, the sign between them below 256 -/
theorem split_len {z y : Str} (hy : tl y ≠ []) (hk : y.cps.all (· < 256) = true) : (∀ w ∈ Txt.split z y, w.length ≤ z.length) ∧ (Txt.split z y).length ≤ z.length + 1 := by
  have k1 : Builtin.Str.strKind y = 1 := by
    unfold Builtin.Str.strKind
    rw [if_pos hk]
  have k2 : ¬ Builtin.Str.strKind z < Builtin.Str.strKind y := by
    rw [k1]
    unfold Builtin.Str.strKind
    split
    · omega
    · split <;> omega
  have e := split_spl z y hy k2
  obtain ⟨h1, h2⟩ := spl_len (S := tl y) (tl z) 0 []
  rw [← e] at h1 h2
  constructor
  · intro w hw
    have := h1 (tl w) (List.mem_map_of_mem hw)
    rw [List.length_nil, Nat.zero_add, len_tl, len_tl] at this
    exact this
  · rw [List.length_map, len_tl] at h2
    exact h2
theorem szOk {n : Nat} (h : n ≤ 1000000) : n ≤ sizeLine := Nat.le_trans h (by decide)
theorem szLt {n : Nat} (h : n ≤ 1000000) : n < sizeLine := Nat.lt_of_le_of_lt h (by decide)
/-- bools shown in a list -/
def bools (bs : List Bool) : PyData := .list (bs.map .bool)
theorem dp_bools {K : PySem.W.Frag} {H : Hp} : ∀ bs : List Bool, DpAll K H (bs.map V.bl) (bs.map .bool)
  | [] => .nil
  | b :: bs => .cons (.bl b) (dp_bools bs)
theorem _root_.L2.Same.new {H H' : Hp} {p : Addr} {o : HO} (a : Same H H') (h : H' p = none) : Same H (upd H' p o) := fun c u e => by
  rw [upd_ne (ne_of_none (a c u e) h)]
  exact a c u e
theorem _root_.L2.Same.put {H H' : Hp} {p : Addr} {o : HO} (a : Same H H') (h : H p = none) : Same H (upd H' p o) := fun c u e => by
  rw [upd_ne (ne_of_none e h)]
  exact a c u e
theorem _root_.L2.Same.there {H H' : Hp} {p : Addr} {o : HO} (k : Same (upd H p o) H') : H' p = some o := k p _ upd_same
theorem sm_tup {K : PySem.W.Frag} {H H' : Hp} {a : Addr} {xs : List V} (e : Same H H') (h : SqT K H a xs) : SqT K H' a xs := by
  rcases h with (h | ⟨o, h⟩) | h
  · exact .inl (.inl (e _ _ h))
  · exact .inl (.inr ⟨o, e _ _ h⟩)
  · exact .inr h
/-! ### comprehensions that change nothing: [f x for x in .. if p x] -/
section
variable {K : PySem.W.Frag} {J : It} {xs : List V} {G : Hp → Prop} {tt : TT} {te : TE} {vs : List Nat} {σ : St} {H : Hp} {Q : VK} {j : Nat} {a : Addr} {z : Str}
/-- reads and makes new things alone: b at the end -/
def Pt (t : TT) (σ : St) (H : Hp) (b : Bool) : Prop := ∀ H1, Same H H1 → ∀ QE : Bool → Hp → Prop, (∀ H2, Same H1 H2 → QE b H2) → t σ H1 QE
def Pe (t : TE) (σ : St) (H : Hp) (v : V) : Prop := ∀ H1, Same H H1 → ∀ QE : VK, (∀ H2, Same H1 H2 → QE v H2) → t σ H1 QE
theorem pt_yes : Pt tYes σ H true := fun H1 _ QE q => q H1 (Same.refl H1)
theorem lc_pure (w : Walk J xs.length G (YAt xs)) (hG : ∀ H', Same H H' → G H') (p : V → Bool) (f : V → V) (hw : ∀ x, wipe ((wipe σ vs).set j (some x)) vs = wipe σ vs) (hl : xs.length ≤ 1000000)
    (ht : ∀ x, x ∈ xs → Pt tt ((wipe σ vs).set j (some x)) H (p x)) (he : ∀ x, x ∈ xs → p x = true → Pe te ((wipe σ vs).set j (some x)) H (f x))
    (hd : ∀ D H', H D = none → Same H H' → H' D = some (.lst ((xs.filter p).map f)) → Q (.ref D) H') : LcW J (gName j) tt te vs σ H Q := by
  refine lc_by w (fun D i H' => Same H H' ∧ H' D = some (.lst (((xs.take i).filter p).map f))) (fun D hD => ⟨(Same.refl H).new hD, upd_same⟩) (fun D i H' _ _ h => hG H' h.1) ?_ (fun D H' hD h => hd D H' hD h.1 (by have := h.2; rwa [List.take_length] at this))
  rintro D i x H1 H2 hD hi ⟨hS, hD1⟩ ⟨rfl, hx⟩
  have mem : x ∈ xs := List.mem_of_getElem? hx
  have grow : xs.take (i + 1) = xs.take i ++ [x] := by rw [List.take_add_one, hx]; rfl
  refine ⟨hw x, ht x mem H2 hS _ fun H3 s3 => ?_⟩
  cases hp : p x with
  | true =>
    refine rd_yT (he x mem hp H3 (hS.trans s3) _ fun H4 s4 => ?_)
    refine ⟨_, s4 _ _ (s3 _ _ hD1), szLt ?_, ((hS.trans s3).trans s4).put hD, ?_⟩
    · rw [List.length_map]
      have h1 := List.length_filter_le p (xs.take i)
      rw [List.length_take] at h1
      omega
    · rw [upd_same, grow, List.filter_append, List.map_append]
      simp [hp]
  | false =>
    refine rd_nF ⟨hS.trans s3, ?_⟩
    rw [s3 _ _ hD1, grow, List.filter_append]
    simp [hp]
theorem rd_mapL (h : SqL K H a xs) (p : V → Bool) (f : V → V) (hw : ∀ x, wipe ((wipe σ vs).set j (some x)) vs = wipe σ vs) (hl : xs.length ≤ 1000000)
    (ht : ∀ x, x ∈ xs → Pt tt ((wipe σ vs).set j (some x)) H (p x)) (he : ∀ x, x ∈ xs → p x = true → Pe te ((wipe σ vs).set j (some x)) H (f x))
    (hd : ∀ D H', H D = none → Same H H' → H' D = some (.lst ((xs.filter p).map f)) → Q (.ref D) H') : ∃ b, V.ref a = .ref b ∧ (∃ xs, SqL K H b xs) ∧ LcW (Itl K b) (gName j) tt te vs σ H Q :=
  ⟨a, rfl, ⟨xs, h⟩, lc_pure walk_list (fun H' e => e.seq h) p f hw hl ht he hd⟩
theorem rd_mapT (h : SqT K H a xs) (p : V → Bool) (f : V → V) (hw : ∀ x, wipe ((wipe σ vs).set j (some x)) vs = wipe σ vs) (hl : xs.length ≤ 1000000)
    (ht : ∀ x, x ∈ xs → Pt tt ((wipe σ vs).set j (some x)) H (p x)) (he : ∀ x, x ∈ xs → p x = true → Pe te ((wipe σ vs).set j (some x)) H (f x))
    (hd : ∀ D H', H D = none → Same H H' → H' D = some (.lst ((xs.filter p).map f)) → Q (.ref D) H') : ∃ b, V.ref a = .ref b ∧ (∃ xs, SqT K H b xs) ∧ LcW (Itt K b) (gName j) tt te vs σ H Q :=
  ⟨a, rfl, ⟨xs, h⟩, lc_pure walk_tup (fun H' e => sm_tup e h) p f hw hl ht he hd⟩
/-- the signs of a text, each as a text -/
def signs (z : Str) : List V := z.cps.toList.map fun c => .str ⟨#[c]⟩
theorem walk_signs : Walk (Its z) (signs z).length (fun _ => True) (YAt (signs z)) := by
  have e : (signs z).length = z.cps.size := by unfold signs; simp
  rw [e]
  refine walk_str.mono (fun _ h => h) ?_
  rintro i H1 x H2 hi _ ⟨rfl, c, hc, rfl⟩
  refine ⟨rfl, ?_⟩
  unfold signs
  rw [List.getElem?_map, Array.getElem?_toList, hc]
  rfl
theorem rd_mapS (p : V → Bool) (f : V → V) (hw : ∀ x, wipe ((wipe σ vs).set j (some x)) vs = wipe σ vs) (hl : z.length ≤ 1000000)
    (ht : ∀ x, x ∈ signs z → Pt tt ((wipe σ vs).set j (some x)) H (p x)) (he : ∀ x, x ∈ signs z → p x = true → Pe te ((wipe σ vs).set j (some x)) H (f x))
    (hd : ∀ D H', H D = none → Same H H' → H' D = some (.lst (((signs z).filter p).map f)) → Q (.ref D) H') : ∃ y, V.str z = .str y ∧ LcW (Its y) (gName j) tt te vs σ H Q :=
  ⟨z, rfl, lc_pure walk_signs (fun _ _ => trivial) p f hw (by unfold signs; rw [List.length_map]; simpa [Str.length] using hl) ht he hd⟩
end
/-- a value's type stays while what is tracked stays -/
theorem tyx_same {K : PySem.W.Frag} {H H' : Hp} {v : V} {t : Value} (e : Same H H') (h : TyX K H v t) : TyX K H' v t := by
  cases h with
  | base b =>
    refine .base ?_
    cases b with
    | non => exact .non
    | bl x => exact .bl x
    | int i => exact .int i
    | str x => exact .str x
    | flt x => exact .flt x
    | lst h => exact .lst (e _ _ h)
    | frz h => exact .frz (e _ _ h)
    | tup h => exact .tup (e _ _ h)
    | dK h => exact .dK (e _ _ h)
    | dT h => exact .dT (e _ _ h)
    | ins h c1 c2 c3 c4 c5 => exact .ins (e _ _ h) c1 c2 c3 c4 c5
  | byt b => exact .byt b
  | set h => exact .set (e _ _ h)
  | kList h c => exact .kList h c
  | kTuple h c => exact .kTuple h c
  | kDict h c => exact .kDict h c
  | fTuple h => exact .fTuple (e _ _ h)
  | fDict h => exact .fDict (e _ _ h)
theorem shows_2 (b : Bool) : Shows (.list [.bool b, .bool b]) := by
  cases b <;> exact ⟨by decide +kernel, by decide +kernel, by decide +kernel, by decide +kernel⟩
/-! ### signs, parts of a text -/
theorem tl_mid (z : Str) (i j : Nat) (h : i ≤ j) : tl (cutS z (some (i : Int)) (some (j : Int))) = ((tl z).drop i).take (j - i) := by
  rw [tl_cut, HT.sIx_nat, HT.sIx_nat]
  have e := len_tl z
  by_cases h1 : i ≤ z.length
  · rw [Nat.min_eq_left h1]
    by_cases h2 : j ≤ z.length
    · rw [Nat.min_eq_left h2]
    · rw [Nat.min_eq_right (by omega), List.take_of_length_le (by rw [List.length_drop, e]; exact Nat.le_refl _), List.take_of_length_le (by rw [List.length_drop, e]; omega)]
  · rw [Nat.min_eq_right (by omega), Nat.min_eq_right (by omega), List.drop_of_length_le (by rw [e]; exact Nat.le_refl _), List.drop_of_length_le (by rw [e]; omega), List.take_nil, List.take_nil]
theorem tl_inj {a b : Str} : a = b ↔ tl a = tl b := ⟨fun h => h ▸ rfl, str_ext⟩
theorem dec_tl (a b : Str) : decide (a = b) = decide (tl a = tl b) := decide_eq_decide.mpr tl_inj
theorem tl_sg (c : Nat) : tl (⟨#[c]⟩ : Str) = [c] := rfl
theorem drop_ne {l : List Nat} {k c : Nat} {r : List Nat} (h : l.drop k = c :: r) : l[k]? = some c ∧ k < l.length ∧ l.drop (k + 1) = r := by
  have h1 : (l.drop k)[0]? = some c := by rw [h]; rfl
  rw [List.getElem?_drop, Nat.add_zero] at h1
  refine ⟨h1, (List.getElem?_eq_some_iff.mp h1).1, ?_⟩
  rw [← List.drop_drop, h]
  rfl
/-- the first c in a row of signs: what stands before it, what behind -/
def cutAt (c : Nat) : List Nat → Option (List Nat × List Nat)
  | [] => none
  | x :: r => if x = c then some ([], r) else (cutAt c r).map fun p => (x :: p.1, p.2)
theorem cutAt_none {c : Nat} : ∀ {l : List Nat}, cutAt c l = none → c ∉ l
  | [], _ => List.not_mem_nil
  | x :: r, h => by
    unfold cutAt at h
    by_cases e : x = c
    · rw [if_pos e] at h; cases h
    · rw [if_neg e, Option.map_eq_none_iff] at h
      rw [List.mem_cons]
      rintro (q | q)
      · exact e q.symm
      · exact cutAt_none h q
theorem cutAt_some {c : Nat} : ∀ {l b t : List Nat}, cutAt c l = some (b, t) → l = b ++ c :: t ∧ c ∉ b
  | [], _, _, h => by cases h
  | x :: r, b, t, h => by
    unfold cutAt at h
    by_cases e : x = c
    · rw [if_pos e] at h
      cases h
      exact ⟨by rw [e]; rfl, List.not_mem_nil⟩
    · rw [if_neg e] at h
      obtain ⟨⟨b', t'⟩, h1, h2⟩ := Option.map_eq_some_iff.mp h
      cases h2
      obtain ⟨h3, h4⟩ := cutAt_some h1
      refine ⟨by rw [h3]; rfl, ?_⟩
      rw [List.mem_cons]
      rintro (q | q)
      · exact e q.symm
      · exact h4 q
theorem from_nat {n i : Nat} : fromIndex n (i : Int) = i := by
  unfold fromIndex
  rw [if_neg (by omega)]
  omega
theorem getD_tl {z : Str} {v c : Nat} (hv : v < z.length) : z.cps.getD v 0 = c ↔ (tl z)[v]? = some c := ⟨StrLaws.getElem?_of_getD hv, StrLaws.getD_of_getElem?⟩
/-- find of one sign, from a place on -/
theorem find_cut (z : Str) (c i : Nat) : Txt.find3 z ⟨#[c]⟩ (i : Int) = (match cutAt c ((tl z).drop i) with | none => -1 | some (b, _) => ((i + b.length : Nat) : Int)) := by
  have sp := StrLaws.find3_spec z c (i : Int)
  rw [from_nat] at sp
  cases e : cutAt c ((tl z).drop i) with
  | none =>
    rcases sp with ⟨h, _⟩ | ⟨k, h, h1, h2, h3, _⟩
    · exact h
    · refine absurd ?_ (cutAt_none e)
      refine List.mem_of_getElem? (i := k - i) ?_
      rw [List.getElem?_drop, show i + (k - i) = k by omega]
      exact (getD_tl h2).mp h3
  | some p =>
    obtain ⟨b, t⟩ := p
    obtain ⟨h5, h6⟩ := cutAt_some e
    have at_ : (tl z)[i + b.length]? = some c := by
      rw [← List.getElem?_drop, h5, List.getElem?_append_right (Nat.le_refl _), Nat.sub_self]
      rfl
    have lt := (List.getElem?_eq_some_iff.mp at_).1
    rw [len_tl] at lt
    rcases sp with ⟨_, h⟩ | ⟨k, h, h1, h2, h3, h4⟩
    · exact absurd ((getD_tl lt).mpr at_) (h _ (by omega) lt)
    · rw [h]
      have h3' := (getD_tl h2).mp h3
      have e1 : ¬ k < i + b.length := fun q => h6 (by
        refine List.mem_of_getElem? (i := k - i) (a := c) ?_
        have : ((tl z).drop i)[k - i]? = some c := by rw [List.getElem?_drop, show i + (k - i) = k by omega]; exact h3'
        rw [h5, List.getElem?_append_left (by omega)] at this
        exact this)
      have e2 : ¬ i + b.length < k := fun q => h4 _ (by omega) q ((getD_tl lt).mpr at_)
      show (k : Int) = ((i + b.length : Nat) : Int)
      omega
theorem find_cut0 (z : Str) (c : Nat) : Txt.find z ⟨#[c]⟩ = (match cutAt c (tl z) with | none => -1 | some (b, _) => (b.length : Int)) := by
  rw [find_is_find3, show (0 : Int) = ((0 : Nat) : Int) from rfl, find_cut, List.drop_zero]
  cases cutAt c (tl z) with
  | none => rfl
  | some p => show ((0 + p.1.length : Nat) : Int) = _; rw [Nat.zero_add]
/-! ### what is new since A -/
def nw (A H : Hp) : Hp := fun a => match A a with | none => H a | some _ => none
/-- all that A tracks is tracked still -/
def Sub (A H : Hp) : Prop := ∀ a, H a = none → A a = none
theorem Sub.refl (A : Hp) : Sub A A := fun _ h => h
theorem Sub.of {A H : Hp} (e : Same A H) : Sub A H := fun a h => by
  cases q : A a with
  | none => rfl
  | some o => rw [e _ _ q] at h; cases h
theorem Sub.trans {A B C : Hp} (h : Sub A B) (k : Sub B C) : Sub A C := fun a q => h a (k a q)
theorem Sub.upd {A H : Hp} {p : Addr} {o : HO} (h : Sub A H) : Sub A (upd H p o) := fun a q => by
  by_cases e : a = p
  · rw [e, upd_same] at q; cases q
  · rw [upd_ne e] at q; exact h a q
theorem nw_get {A H : Hp} {a : Addr} {o : HO} (h : A a = none) (k : H a = some o) : nw A H a = some o := by
  unfold nw
  rw [h]
  exact k
theorem nw_inv {A H : Hp} {a : Addr} {o : HO} (k : nw A H a = some o) : A a = none ∧ H a = some o := by
  unfold nw at k
  cases q : A a with
  | none => rw [q] at k; exact ⟨rfl, k⟩
  | some u => rw [q] at k; cases k
theorem nw_same {A H : Hp} : Same (nw A H) H := fun _ _ k => (nw_inv k).2
theorem nw_mono {A H H' : Hp} (e : Same H H') : Same (nw A H) (nw A H') := fun a o k => nw_get (nw_inv k).1 (e _ _ (nw_inv k).2)
theorem nw_base {A B H : Hp} (e : Sub A B) : Same (nw B H) (nw A H) := fun a o k => nw_get (e a (nw_inv k).1) (nw_inv k).2
theorem nw_put {A H : Hp} {p : Addr} {u o : HO} (h : A p = some u) : Same (nw A H) (nw A (upd H p o)) := fun a v k => by
  obtain ⟨k1, k2⟩ := nw_inv k
  have e : a ≠ p := fun e => by rw [e, h] at k1; cases k1
  exact nw_get k1 (by rw [upd_ne e]; exact k2)
theorem nw_ne {A H : Hp} {a p : Addr} {u o : HO} (h : A p = some u) (k : nw A H a = some o) : a ≠ p := fun e => by
  have := (nw_inv k).1
  rw [e, h] at this
  cases this
theorem tl_nil : tl ("" : Str) = [] := by decide +kernel
theorem isSome_map {α β : Type} {f : α → β} {o : Option α} : (o.map f).isSome = o.isSome := by cases o <;> rfl
/-- a text of signs: its first one, the rest -/
theorem tl_cases (z : Str) : tl z = [] ∨ ∃ c r, tl z = c :: r := by
  cases e : tl z with
  | nil => exact .inl rfl
  | cons c r => exact .inr ⟨c, r, rfl⟩
theorem tl_from (z : Str) (k : Nat) : tl (cutS z (some (k : Int)) none) = (tl z).drop k := tl_drop z k
/-! ### rising rows, keys of dicts -/
theorem incr_ext : ∀ {l m : List Int}, l.Pairwise (· < ·) → m.Pairwise (· < ·) → (∀ x, x ∈ l ↔ x ∈ m) → l = m
  | [], [], _, _, _ => rfl
  | [], b :: m, _, _, h => absurd ((h b).mpr List.mem_cons_self) List.not_mem_nil
  | a :: l, [], _, _, h => absurd ((h a).mp List.mem_cons_self) List.not_mem_nil
  | a :: l, b :: m, hl, hm, h => by
    obtain ⟨l1, l2⟩ := List.pairwise_cons.mp hl
    obtain ⟨m1, m2⟩ := List.pairwise_cons.mp hm
    have e : a = b := by
      rcases List.mem_cons.mp ((h a).mp List.mem_cons_self) with e | e
      · exact e
      · rcases List.mem_cons.mp ((h b).mpr List.mem_cons_self) with e' | e'
        · exact e'.symm
        · have := l1 _ e'
          have := m1 _ e
          omega
    subst e
    rw [incr_ext l2 m2 fun x => ⟨fun q => ?_, fun q => ?_⟩]
    · rcases List.mem_cons.mp ((h x).mp (List.mem_cons_of_mem _ q)) with e | e
      · have := l1 _ q; omega
      · exact e
    · rcases List.mem_cons.mp ((h x).mpr (List.mem_cons_of_mem _ q)) with e | e
      · have := m1 _ q; omega
      · exact e
theorem strict_of {l : List Int} (h : l.Pairwise (· ≤ ·)) (n : l.Nodup) : l.Pairwise (· < ·) := by
  refine (List.Pairwise.and h n).imp ?_
  rintro a b ⟨h1, h2⟩
  have : a ≠ b := h2
  omega
/-- a set's members, in the sequence in which they came -/
def putI (ks : List Int) (k : Int) : List Int := if k ∈ ks then ks else ks ++ [k]
theorem keys_put {kvs : List (Key × V)} {ks : List Int} {k : Int} {v : V} (h : kvs.map (·.1) = ks.map Sum.inl) : (putK kvs (Sum.inl k) v).map (·.1) = (putI ks k).map Sum.inl := by
  have any : (kvs.any fun kv => decide (kv.1 = Sum.inl k)) = decide (k ∈ ks) := by
    have e : (kvs.any fun kv => decide (kv.1 = Sum.inl k)) = (kvs.map (·.1)).any fun x => decide (x = Sum.inl k) := by rw [List.any_map]; rfl
    rw [e, h, List.any_map]
    rw [Bool.eq_iff_iff, List.any_eq_true, decide_eq_true_eq]
    constructor
    · rintro ⟨x, h1, h2⟩
      have h2 := of_decide_eq_true h2
      cases h2
      exact h1
    · exact fun h1 => ⟨k, h1, decide_eq_true rfl⟩
  unfold putK putI
  rw [any]
  by_cases c : k ∈ ks
  · rw [decide_eq_true c, if_pos rfl, if_pos c, ← h, List.map_map]
    refine List.map_congr_left fun kv _ => ?_
    show (if kv.1 = Sum.inl k then (kv.1, v) else kv).1 = kv.1
    split <;> rfl
  · rw [decide_eq_false c, if_neg (by decide), if_neg c, List.map_append, List.map_append, h]
    rfl
theorem putI_mem {ks : List Int} {k x : Int} : x ∈ putI ks k ↔ x ∈ ks ∨ x = k := by
  unfold putI
  split
  · rename_i h
    exact ⟨.inl, fun q => q.elim id fun e => e ▸ h⟩
  · rw [List.mem_append, List.mem_singleton]
theorem putI_nodup {ks : List Int} {k : Int} (h : ks.Nodup) : (putI ks k).Nodup := by
  unfold putI
  split
  · exact h
  · rename_i c
    refine List.nodup_append.mpr ⟨h, List.pairwise_singleton _ _, ?_⟩
    intro a ha b hb e
    rw [List.mem_singleton] at hb
    exact c (hb ▸ e ▸ ha)
theorem keys_len {kvs : List (Key × V)} {ks : List Int} (h : kvs.map (·.1) = ks.map Sum.inl) : kvs.length = ks.length := by
  have := congrArg List.length h
  rwa [List.length_map, List.length_map] at this
/-- members below n, none twice: n at most -/
theorem few_ints : ∀ (n : Nat) {ks : List Int}, ks.Nodup → (∀ k ∈ ks, 0 ≤ k ∧ k < (n : Int)) → ks.length ≤ n
  | 0, [], _, _ => Nat.le_refl _
  | 0, k :: ks, _, h => by have := h k List.mem_cons_self; omega
  | n + 1, ks, hn, h => by
    have h1 : (ks.erase (n : Int)).length ≤ n := by
      refine few_ints n (hn.erase _) fun k hk => ?_
      have h2 := h k (List.mem_of_mem_erase hk)
      have h3 : k ≠ (n : Int) := by
        intro e
        rw [e] at hk
        exact (List.Nodup.mem_erase_iff hn).mp hk |>.1 rfl
      omega
    rw [List.length_erase] at h1
    split at h1 <;> omega
def sg (c : Nat) : Str := ⟨#[c]⟩
def mk (l : List Nat) : Str := ⟨l.toArray⟩
theorem tl_mk (l : List Nat) : tl (mk l) = l := by
  show (l.toArray).toList = l
  simp
theorem len_mk (l : List Nat) : (mk l).length = l.length := by rw [← len_tl, tl_mk]
theorem rd_strD {H : Hp} {Q : VK} {n : Nat} (h : n < 10) (q : Q (.str (sg (48 + n))) H) : xStrI [.int (n : Int)] H Q := by
  have e : ∀ n, n < 10 → ((toString ((n : Nat) : Int) : String) : Str) = sg (48 + n) := by decide +kernel
  refine ⟨_, rfl, ?_, ?_⟩
  · have : ∀ n, n < 10 → (((n : Nat) : Int).natAbs.log2 < 1920) := by decide +kernel
    exact this n h
  · rw [e n h]; exact q
theorem cutV_take (xs : List V) (k : Nat) : cutV xs none (some (k : Int)) = xs.take k := by
  unfold cutV
  rw [HT.sIx_none, List.drop_zero, Nat.sub_zero, HT.sIx_nat]
  by_cases h : k ≤ xs.length
  · rw [Nat.min_eq_left h]
  · rw [Nat.min_eq_right (by omega), List.take_of_length_le (Nat.le_refl _), List.take_of_length_le (by omega)]
theorem cutV_drop (xs : List V) (k : Nat) : cutV xs (some (k : Int)) none = xs.drop k := by
  unfold cutV
  rw [HT.sIx_none, HT.sIx_nat]
  by_cases h : k ≤ xs.length
  · rw [Nat.min_eq_left h, List.take_of_length_le (by rw [List.length_drop]; exact Nat.le_refl _)]
  · rw [Nat.min_eq_right (by omega), List.drop_of_length_le (Nat.le_refl _), List.drop_of_length_le (by omega), List.take_nil]
theorem cutV_mid (xs : List V) (i j : Nat) (h : i ≤ j) : cutV xs (some (i : Int)) (some (j : Int)) = (xs.drop i).take (j - i) := by
  unfold cutV
  rw [HT.sIx_nat, HT.sIx_nat]
  by_cases h1 : i ≤ xs.length
  · rw [Nat.min_eq_left h1]
    by_cases h2 : j ≤ xs.length
    · rw [Nat.min_eq_left h2]
    · rw [Nat.min_eq_right (by omega), List.take_of_length_le (by rw [List.length_drop]; exact Nat.le_refl _), List.take_of_length_le (by rw [List.length_drop]; omega)]
  · rw [Nat.min_eq_right (by omega), Nat.min_eq_right (by omega), List.drop_of_length_le (Nat.le_refl _), List.drop_of_length_le (by omega), List.take_nil, List.take_nil]
end Mine

/-! ## Data that never changes: tuples of tuples, ints, texts -/
namespace Mine
open PySem PySem.Spec PyProof.Rows L2
open TL (tl)
set_option linter.all false
/-- tuples stay -/
def Tp (H H' : Hp) : Prop := ∀ a xs, H a = some (.tup xs) → H' a = some (.tup xs)
theorem Tp.refl (H : Hp) : Tp H H := fun _ _ h => h
theorem Tp.trans {A B C : Hp} (h : Tp A B) (k : Tp B C) : Tp A C := fun a xs q => k a xs (h a xs q)
theorem Tp.of {A B : Hp} (h : Same A B) : Tp A B := fun a xs q => h a _ q
theorem Tp.new {A B : Hp} {p : Addr} {o : HO} (h : Tp A B) (n : B p = none) : Tp A (upd B p o) := fun a xs q => by
  have := h a xs q
  rw [upd_ne (ne_of_none this n)]
  exact this
theorem Tp.lst {A B : Hp} {p : Addr} {o : HO} {ys : List V} (h : Tp A B) (n : B p = some (.lst ys)) : Tp A (upd B p o) := fun a xs q => by
  have := h a xs q
  rw [upd_ne (fun e => by rw [e, n] at this; cases this)]
  exact this
theorem Tp.dct {A B : Hp} {p : Addr} {o : HO} {ys : List (Key × V)} (h : Tp A B) (n : B p = some (.dK ys)) : Tp A (upd B p o) := fun a xs q => by
  have := h a xs q
  rw [upd_ne (fun e => by rw [e, n] at this; cases this)]
  exact this
theorem Tp.put {A B : Hp} {p : Addr} {o : HO} (h : Tp A B) (n : A p = none) : Tp A (upd B p o) := fun a xs q => by
  rw [upd_ne (ne_of_none q n)]
  exact h a xs q
mutual
/-- data, held by a value -/
inductive Im (H : Hp) : V → PyData → Prop
  | non : Im H .non .none
  | bl (b : Bool) : Im H (.bl b) (.bool b)
  | int (i : Int) : Im H (.int i) (.int i)
  | str (x : Str) : Im H (.str x) (.str x)
  | tup {a : Addr} {xs : List V} {ds : List PyData} : H a = some (.tup xs) → ImAll H xs ds → Im H (.ref a) (.tuple ds)
inductive ImAll (H : Hp) : List V → List PyData → Prop
  | nil : ImAll H [] []
  | cons {v : V} {vs : List V} {d : PyData} {ds : List PyData} : Im H v d → ImAll H vs ds → ImAll H (v :: vs) (d :: ds)
end
section
variable {H H' : Hp} {K : PySem.W.Frag}
mutual
theorem Im.mono (e : Tp H H') : ∀ (d : PyData) (v : V), Im H v d → Im H' v d
  | .none, _, h => by cases h; exact .non
  | .bool b, _, h => by cases h; exact .bl b
  | .int i, _, h => by cases h; exact .int i
  | .str x, _, h => by cases h; exact .str x
  | .tuple ds, _, h => by
    cases h with
    | tup h1 h2 => exact .tup (e _ _ h1) (ImAll.mono e ds _ h2)
  | .list ds, _, h => by cases h
  | .dict ds, _, h => by cases h
theorem ImAll.mono (e : Tp H H') : ∀ (ds : List PyData) (vs : List V), ImAll H vs ds → ImAll H' vs ds
  | [], _, h => by cases h; exact .nil
  | d :: ds, _, h => by
    cases h with
    | cons h1 h2 => exact .cons (Im.mono e d _ h1) (ImAll.mono e ds _ h2)
end
mutual
theorem Im.dp : ∀ (d : PyData) (v : V), Im H v d → Dp K H v d
  | .none, _, h => by cases h; exact .non
  | .bool b, _, h => by cases h; exact .bl b
  | .int i, _, h => by cases h; exact .int i
  | .str x, _, h => by cases h; exact .str x
  | .tuple ds, _, h => by
    cases h with
    | tup h1 h2 => exact .tup (SqT.of h1) (ImAll.dp ds _ h2)
  | .list ds, _, h => by cases h
  | .dict ds, _, h => by cases h
theorem ImAll.dp : ∀ (ds : List PyData) (vs : List V), ImAll H vs ds → DpAll K H vs ds
  | [], _, h => by cases h; exact .nil
  | d :: ds, _, h => by
    cases h with
    | cons h1 h2 => exact .cons (Im.dp d _ h1) (ImAll.dp ds _ h2)
end
theorem Im.up {v : V} {d : PyData} (h : Im H v d) (e : Tp H H') : Im H' v d := Im.mono e d v h
theorem ImAll.up {vs : List V} {ds : List PyData} (h : ImAll H vs ds) (e : Tp H H') : ImAll H' vs ds := ImAll.mono e ds vs h
theorem Im.to {v : V} {d : PyData} (h : Im H v d) : Dp K H v d := Im.dp d v h
theorem ImAll.to {vs : List V} {ds : List PyData} (h : ImAll H vs ds) : DpAll K H vs ds := ImAll.dp ds vs h
theorem ImAll.length : ∀ {vs : List V} {ds : List PyData}, ImAll H vs ds → vs.length = ds.length
  | _, [], h => by cases h; rfl
  | _, d :: ds, h => by
    cases h with
    | cons _ h2 => rw [List.length_cons, List.length_cons, ImAll.length h2]
theorem ImAll.get : ∀ {vs : List V} {ds : List PyData} {i : Nat} {d : PyData}, ImAll H vs ds → ds[i]? = some d → ∃ v, vs[i]? = some v ∧ Im H v d
  | _, [], i, _, h, e => by simp at e
  | _, d :: ds, 0, _, h, e => by
    cases h with
    | cons h1 h2 => cases e; exact ⟨_, rfl, h1⟩
  | _, d :: ds, i + 1, _, h, e => by
    cases h with
    | cons h1 h2 => exact ImAll.get (i := i) h2 e
theorem ImAll.getV : ∀ {vs : List V} {ds : List PyData} {i : Nat} {v : V}, ImAll H vs ds → vs[i]? = some v → ∃ d, ds[i]? = some d ∧ Im H v d := fun {vs ds i v} h e => by
  have l := (List.getElem?_eq_some_iff.mp e).1
  rw [h.length] at l
  obtain ⟨w, h1, h2⟩ := h.get (List.getElem?_eq_getElem l)
  rw [e] at h1
  cases h1
  exact ⟨_, List.getElem?_eq_getElem l, h2⟩
theorem ImAll.append : ∀ {vs ws : List V} {ds es : List PyData}, ImAll H vs ds → ImAll H ws es → ImAll H (vs ++ ws) (ds ++ es)
  | _, _, [], _, h, k => by cases h; exact k
  | _, _, d :: ds, _, h, k => by
    cases h with
    | cons h1 h2 => exact .cons h1 (ImAll.append h2 k)
theorem ImAll.snoc {vs : List V} {v : V} {ds : List PyData} {d : PyData} (h : ImAll H vs ds) (k : Im H v d) : ImAll H (vs ++ [v]) (ds ++ [d]) := h.append (.cons k .nil)
theorem ImAll.set : ∀ {vs : List V} {ds : List PyData} {v : V} {d : PyData} (i : Nat), ImAll H vs ds → Im H v d → ImAll H (vs.set i v) (ds.set i d)
  | _, [], _, _, i, h, _ => by cases h; exact .nil
  | _, d :: ds, _, _, 0, h, k => by
    cases h with
    | cons h1 h2 => exact .cons k h2
  | _, d :: ds, _, _, i + 1, h, k => by
    cases h with
    | cons h1 h2 => exact .cons h1 (ImAll.set i h2 k)
theorem ImAll.take : ∀ {vs : List V} {ds : List PyData} (i : Nat), ImAll H vs ds → ImAll H (vs.take i) (ds.take i)
  | _, [], i, h => by cases h; rw [List.take_nil, List.take_nil]; exact .nil
  | _, d :: ds, 0, h => .nil
  | _, d :: ds, i + 1, h => by
    cases h with
    | cons h1 h2 => exact .cons h1 (ImAll.take i h2)
theorem ImAll.drop : ∀ {vs : List V} {ds : List PyData} (i : Nat), ImAll H vs ds → ImAll H (vs.drop i) (ds.drop i)
  | _, [], i, h => by cases h; rw [List.drop_nil, List.drop_nil]; exact .nil
  | _, d :: ds, 0, h => h
  | _, d :: ds, i + 1, h => by
    cases h with
    | cons h1 h2 => exact ImAll.drop i h2
theorem im_strs : ∀ ws : List Str, ImAll H (ws.map V.str) (ws.map PyData.str)
  | [] => .nil
  | w :: ws => .cons (.str w) (im_strs ws)
theorem im_ints : ∀ ws : List Int, ImAll H (ws.map V.int) (ws.map PyData.int)
  | [] => .nil
  | w :: ws => .cons (.int w) (im_ints ws)
/-- a tuple of one, two, three, four -/
theorem Im.t1 {v : V} {d : PyData} (h : Im H v (.tuple [d])) : ∃ a x, v = .ref a ∧ H a = some (.tup [x]) ∧ Im H x d := by
  cases h with
  | tup h1 h2 =>
    cases h2 with
    | cons k1 r1 => cases r1; exact ⟨_, _, rfl, h1, k1⟩
theorem Im.t2 {v : V} {d e : PyData} (h : Im H v (.tuple [d, e])) : ∃ a x y, v = .ref a ∧ H a = some (.tup [x, y]) ∧ Im H x d ∧ Im H y e := by
  cases h with
  | tup h1 h2 =>
    cases h2 with
    | cons k1 r1 =>
      cases r1 with
      | cons k2 r2 => cases r2; exact ⟨_, _, _, rfl, h1, k1, k2⟩
theorem Im.t3 {v : V} {d e f : PyData} (h : Im H v (.tuple [d, e, f])) : ∃ a x y z, v = .ref a ∧ H a = some (.tup [x, y, z]) ∧ Im H x d ∧ Im H y e ∧ Im H z f := by
  cases h with
  | tup h1 h2 =>
    cases h2 with
    | cons k1 r1 =>
      cases r1 with
      | cons k2 r2 =>
        cases r2 with
        | cons k3 r3 => cases r3; exact ⟨_, _, _, _, rfl, h1, k1, k2, k3⟩
theorem Im.t4 {v : V} {d e f g : PyData} (h : Im H v (.tuple [d, e, f, g])) : ∃ a x y z u, v = .ref a ∧ H a = some (.tup [x, y, z, u]) ∧ Im H x d ∧ Im H y e ∧ Im H z f ∧ Im H u g := by
  cases h with
  | tup h1 h2 =>
    cases h2 with
    | cons k1 r1 =>
      cases r1 with
      | cons k2 r2 =>
        cases r2 with
        | cons k3 r3 =>
          cases r3 with
          | cons k4 r4 => cases r4; exact ⟨_, _, _, _, _, rfl, h1, k1, k2, k3, k4⟩
theorem Im.tn {v : V} {ds : List PyData} (h : Im H v (.tuple ds)) : ∃ a xs, v = .ref a ∧ H a = some (.tup xs) ∧ ImAll H xs ds := by
  cases h with
  | tup h1 h2 => exact ⟨_, _, rfl, h1, h2⟩
theorem Im.i {v : V} {i : Int} (h : Im H v (.int i)) : v = .int i := by cases h; rfl
theorem Im.s {v : V} {x : Str} (h : Im H v (.str x)) : v = .str x := by cases h; rfl
theorem Im.n {v : V} (h : Im H v .none) : v = .non := by cases h; rfl
theorem Im.b {v : V} {b : Bool} (h : Im H v (.bool b)) : v = .bl b := by cases h; rfl
theorem Im.mk1 {a : Addr} {x : V} {d : PyData} (h : H a = some (.tup [x])) (h1 : Im H x d) : Im H (.ref a) (.tuple [d]) := .tup h (.cons h1 .nil)
theorem Im.mk2 {a : Addr} {x y : V} {d e : PyData} (h : H a = some (.tup [x, y])) (h1 : Im H x d) (h2 : Im H y e) : Im H (.ref a) (.tuple [d, e]) := .tup h (.cons h1 (.cons h2 .nil))
theorem Im.mk3 {a : Addr} {x y z : V} {d e f : PyData} (h : H a = some (.tup [x, y, z])) (h1 : Im H x d) (h2 : Im H y e) (h3 : Im H z f) : Im H (.ref a) (.tuple [d, e, f]) := .tup h (.cons h1 (.cons h2 (.cons h3 .nil)))
theorem Im.mk4 {a : Addr} {x y z u : V} {d e f g : PyData} (h : H a = some (.tup [x, y, z, u])) (h1 : Im H x d) (h2 : Im H y e) (h3 : Im H z f) (h4 : Im H u g) : Im H (.ref a) (.tuple [d, e, f, g]) := .tup h (.cons h1 (.cons h2 (.cons h3 (.cons h4 .nil))))
end
/-! ### what may be shown, by bounds -/
mutual
def good : PyData → Bool
  | .none | .bool _ => true
  | .int i => decide (i.natAbs < 10 ^ 6)
  | .str x => x.cps.all (· < 0x110000)
  | .list xs | .tuple xs => goodAll xs
  | .dict _ => false
def goodAll : List PyData → Bool
  | [] => true
  | x :: xs => good x && goodAll xs
end
mutual
theorem good_ok : ∀ d : PyData, good d = true → d.canLay0 = true ∧ d.intsShort 13 = true ∧ d.showable = true ∧ d.hasDict = false
  | .none, _ => ⟨rfl, rfl, rfl, rfl⟩
  | .bool _, _ => ⟨rfl, rfl, rfl, rfl⟩
  | .int i, h => by
    have h1 : i.natAbs < 10 ^ 6 := of_decide_eq_true h
    refine ⟨rfl, ?_, ?_, rfl⟩
    · exact decide_eq_true (PyData.shown_int_le (Nat.lt_trans h1 (by decide)))
    · refine decide_eq_true (Nat.lt_of_le_of_lt ?_ (show 20 < 1920 by decide))
      have h2 : i.natAbs < 2 ^ 20 := Nat.lt_trans h1 (by decide)
      have := PySem.Flt.log2_lt_of (by decide) h2
      omega
  | .str x, h => ⟨h, rfl, rfl, rfl⟩
  | .list xs, h => goodAll_ok xs h
  | .tuple xs, h => goodAll_ok xs h
theorem goodAll_ok : ∀ xs : List PyData, goodAll xs = true → PyData.canLayAll0 xs = true ∧ PyData.intsShortAll 13 xs = true ∧ PyData.showableAll xs = true ∧ PyData.hasDictAll xs = false
  | [], _ => ⟨rfl, rfl, rfl, rfl⟩
  | x :: xs, h => by
    have h' : (good x && goodAll xs) = true := h
    rw [Bool.and_eq_true] at h'
    obtain ⟨a1, a2, a3, a4⟩ := good_ok x h'.1
    obtain ⟨b1, b2, b3, b4⟩ := goodAll_ok xs h'.2
    refine ⟨?_, ?_, ?_, ?_⟩
    · show (PyData.canLay0 x && PyData.canLayAll0 xs) = true
      rw [a1, b1]; rfl
    · show (PyData.intsShort 13 x && PyData.intsShortAll 13 xs) = true
      rw [a2, b2]; rfl
    · show (PyData.showable x && PyData.showableAll xs) = true
      rw [a3, b3]; rfl
    · show (PyData.hasDict x || PyData.hasDictAll xs) = false
      rw [a4, b4]; rfl
end
/-- bounds of data: its depth, its weight -/
structure Bd (k w : Nat) (d : PyData) : Prop where
  g : good d = true
  dp : d.depth ≤ k
  w : d.weight ≤ w
theorem Bd.mono {k w k' w' : Nat} {d : PyData} (h : Bd k w d) (h1 : k ≤ k') (h2 : w ≤ w') : Bd k' w' d := ⟨h.g, Nat.le_trans h.dp h1, Nat.le_trans h.w h2⟩
theorem bd_all {k w : Nat} : ∀ {ds : List PyData}, (∀ d ∈ ds, Bd k w d) → goodAll ds = true ∧ PyData.depthAll ds ≤ k ∧ PyData.weightAll ds ≤ ds.length * (w + 1)
  | [], _ => ⟨rfl, Nat.zero_le _, Nat.zero_le _⟩
  | d :: ds, h => by
    obtain ⟨h1, h2, h3⟩ := bd_all fun e he => h e (List.mem_cons_of_mem _ he)
    obtain ⟨a1, a2, a3⟩ := h d List.mem_cons_self
    refine ⟨?_, ?_, ?_⟩
    · show (good d && goodAll ds) = true
      rw [a1, h1]; rfl
    · show max _ _ ≤ k
      omega
    · show PyData.weight d + 1 + PyData.weightAll ds ≤ _
      rw [List.length_cons, Nat.add_mul, Nat.one_mul]
      omega
theorem Bd.tup {k w : Nat} {ds : List PyData} (h : ∀ d ∈ ds, Bd k w d) : Bd (k + 1) (ds.length * (w + 1)) (.tuple ds) := by
  obtain ⟨h1, h2, h3⟩ := bd_all h
  exact ⟨h1, Nat.succ_le_succ h2, h3⟩
theorem Bd.lst {k w : Nat} {ds : List PyData} (h : ∀ d ∈ ds, Bd k w d) : Bd (k + 1) (ds.length * (w + 1)) (.list ds) := by
  obtain ⟨h1, h2, h3⟩ := bd_all h
  exact ⟨h1, Nat.succ_le_succ h2, h3⟩
theorem Bd.int {i : Int} (h : i.natAbs < 10 ^ 6) : Bd 0 20 (.int i) := by
  refine ⟨decide_eq_true h, Nat.le_refl _, ?_⟩
  show (if i == 0 then 0 else i.natAbs.log2 + 1) ≤ 20
  split
  · omega
  · have h2 : i.natAbs < 2 ^ 20 := Nat.lt_trans h (by decide)
    have := PySem.Flt.log2_lt_of (by decide) h2
    omega
theorem Bd.str {x : Str} (h : ∀ c ∈ tl x, c < 0x110000) : Bd 0 x.length (.str x) := by
  refine ⟨?_, Nat.le_refl _, Nat.le_refl _⟩
  show x.cps.all (· < 0x110000) = true
  rw [Array.all_eq_true']
  intro c hc
  exact decide_eq_true (h c (Array.mem_toList_iff.mpr hc))
theorem Bd.non : Bd 0 0 .none := ⟨rfl, Nat.le_refl _, Nat.le_refl _⟩
theorem Bd.bl {b : Bool} : Bd 0 0 (.bool b) := ⟨rfl, Nat.le_refl _, Nat.le_refl _⟩
theorem Bd.shows {k w : Nat} {d : PyData} (h : Bd k w d) (h1 : k ≤ 60) (h2 : w ≤ 2 ^ 20) : Shows d := by
  obtain ⟨g1, g2, g3, g4⟩ := good_ok d h.g
  refine ⟨g3, g4, Nat.le_trans h.dp h1, ?_⟩
  refine PyData.shown_fits_of_layable0 (B := 13) (by decide) (by decide) ?_ g2
  show (PyData.canLay0 d && decide (PyData.depth d ≤ 64) && decide (PyData.weight d ≤ 2 ^ 20)) = true
  rw [g1, decide_eq_true (show PyData.depth d ≤ 64 from Nat.le_trans h.dp (by omega)), decide_eq_true (show PyData.weight d ≤ 2 ^ 20 from Nat.le_trans h.w h2)]
  rfl
theorem Bd.shaped {k w : Nat} {d : PyData} (h : Bd k w d) (h1 : k ≤ 60) : SeqAt.shaped d = true := by
  obtain ⟨g1, _, _, _⟩ := good_ok d h.g
  show (PyData.canLay0 d && decide (PyData.depth d ≤ 64)) = true
  rw [g1, decide_eq_true (show PyData.depth d ≤ 64 from Nat.le_trans h.dp (by omega))]
  rfl
/-! ### equal data without bools is the same data -/
mutual
def noB : PyData → Bool
  | .none | .int _ | .str _ => true
  | .list xs | .tuple xs => noBs xs
  | .bool _ | .dict _ => false
def noBs : List PyData → Bool
  | [] => true
  | x :: xs => noB x && noBs xs
end
mutual
theorem eqv_iff : ∀ (d e : PyData), noB d = true → noB e = true → (PyData.eqv d e = true ↔ d = e)
  | .none, e, _, h => by cases e <;> first | exact ⟨fun _ => rfl, fun _ => rfl⟩ | exact ⟨(fun q => nomatch q), (fun q => nomatch q)⟩
  | .int i, e, _, h => by
    cases e with
    | int j =>
      refine ⟨fun q => ?_, fun q => ?_⟩
      · have q' : (i == j) = true := q
        rw [beq_iff_eq.mp q']
      · cases q
        exact beq_self_eq_true i
    | bool b => cases h
    | _ => exact ⟨(fun q => nomatch q), (fun q => nomatch q)⟩
  | .str x, e, _, h => by
    cases e with
    | str y =>
      refine ⟨fun q => ?_, fun q => ?_⟩
      · have q' : (x == y) = true := q
        rw [beq_iff_eq.mp q']
      · cases q
        exact beq_self_eq_true x
    | _ => exact ⟨(fun q => nomatch q), (fun q => nomatch q)⟩
  | .list xs, e, hd, h => by
    cases e with
    | list ys =>
      have r := eqvs_iff xs ys hd h
      exact ⟨fun q => by rw [r.mp q], fun q => r.mpr (PyData.list.inj q)⟩
    | _ => exact ⟨(fun q => nomatch q), (fun q => nomatch q)⟩
  | .tuple xs, e, hd, h => by
    cases e with
    | tuple ys =>
      have r := eqvs_iff xs ys hd h
      exact ⟨fun q => by rw [r.mp q], fun q => r.mpr (PyData.tuple.inj q)⟩
    | _ => exact ⟨(fun q => nomatch q), (fun q => nomatch q)⟩
  | .bool _, _, hd, _ => by cases hd
  | .dict _, _, hd, _ => by cases hd
theorem eqvs_iff : ∀ (xs ys : List PyData), noBs xs = true → noBs ys = true → (PyData.eqvAll xs ys = true ↔ xs = ys)
  | [], [], _, _ => ⟨fun _ => rfl, fun _ => rfl⟩
  | [], _ :: _, _, _ => ⟨(fun q => nomatch q), (fun q => nomatch q)⟩
  | _ :: _, [], _, _ => ⟨(fun q => nomatch q), (fun q => nomatch q)⟩
  | x :: xs, y :: ys, hx, hy => by
    have hx' : (noB x && noBs xs) = true := hx
    have hy' : (noB y && noBs ys) = true := hy
    rw [Bool.and_eq_true] at hx' hy'
    have r1 := eqv_iff x y hx'.1 hy'.1
    have r2 := eqvs_iff xs ys hx'.2 hy'.2
    have e : PyData.eqvAll (x :: xs) (y :: ys) = (PyData.eqv x y && PyData.eqvAll xs ys) := by rw [PyData.eqvAll]
    rw [e, Bool.and_eq_true, r1, r2, List.cons.injEq]
end
theorem noBs_map {α : Type} (f : α → PyData) (h : ∀ a, noB (f a) = true) : ∀ xs : List α, noBs (xs.map f) = true
  | [] => rfl
  | x :: xs => by
    show (noB (f x) && noBs (xs.map f)) = true
    rw [h x, noBs_map f h xs]
    rfl
theorem map_inj' {α β : Type} {f : α → β} (h : ∀ a b, f a = f b → a = b) : ∀ {xs ys : List α}, xs.map f = ys.map f → xs = ys
  | [], [], _ => rfl
  | [], _ :: _, q => nomatch q
  | _ :: _, [], q => nomatch q
  | x :: xs, y :: ys, q => by
    rw [List.map_cons, List.map_cons] at q
    obtain ⟨q1, q2⟩ := List.cons.inj q
    rw [h _ _ q1, map_inj' h q2]
end Mine

/-! ## Comprehensions and loops over data that never changes -/
namespace Mine
open PySem PySem.Spec PyProof.Rows L2
open TL (tl)
set_option linter.all false
section
variable {K : PySem.W.Frag} {H : Hp} {σ : St} {vs : List Nat} {g : TG} {tt : TT} {te tk tv : TE} {Q : VK} {a : Addr} {xs : List V} {α : Type} {as : List α} {enc out : α → PyData} {p : α → Bool}
theorem Same.tp {H H' : Hp} (h : Same H H') : Tp H H' := Tp.of h
theorem ixN_nat {n j : Nat} (h : j < n) : ixN n (j : Int) = some j := by
  unfold ixN
  rw [if_pos (by omega), if_pos (by omega)]
  rfl
/-- what one turn asks: x is a's; the test tells p a, the new value is out a's -/
def ImT (enc out : α → PyData) (p : α → Bool) (as : List α) (g : TG) (tt : TT) (te : TE) (vs : List Nat) (σ : St) (H : Hp) : Prop := ∀ (D : Addr) (x : V) (y : α) (H1 : Hp) (N : Hp → Prop), H D = none → y ∈ as → Same H H1 → Im H1 x (enc y) →
  (p y = false → ∀ H2, Same H1 H2 → N H2) → (p y = true → ∀ v H2, Same H1 H2 → Im H2 v (out y) → ∃ acc, H2 D = some (.lst acc) ∧ acc.length < sizeLine ∧ N (upd H2 D (.lst (acc ++ [v])))) → LcT g tt te vs σ D N x H1
def ImP (enc out : α → PyData) (p : α → Bool) (as : List α) (H : Hp) (D : Addr) (i : Nat) (H' : Hp) : Prop := Same H H' ∧ ∃ ys, H' D = some (.lst ys) ∧ ImAll H' ys (((as.take i).filter p).map out)
theorem ImP.zero {D : Addr} (hD : H D = none) : ImP enc out p as H D 0 (upd H D (.lst [])) := ⟨(Same.refl H).new (o := .lst []) hD, [], upd_same, .nil⟩
theorem ImP.step {D : Addr} {i : Nat} {x : V} {y : α} {H1 : Hp} (hl : as.length ≤ 1000000) (h : ImT enc out p as g tt te vs σ H) (hD : H D = none) (hy : as[i]? = some y) (ix : Im H1 x (enc y)) (hP : ImP enc out p as H D i H1) : LcT g tt te vs σ D (ImP enc out p as H D (i + 1)) x H1 := by
  obtain ⟨k, ys, hys, im⟩ := hP
  have grow : as.take (i + 1) = as.take i ++ [y] := by rw [List.take_add_one, hy]; rfl
  refine h D x y H1 _ hD (List.mem_of_getElem? hy) k ix (fun hp H2 k2 => ⟨k.trans k2, ys, k2 _ _ hys, ?_⟩) (fun hp v H2 k2 iv => ⟨ys, k2 _ _ hys, ?_, (k.trans k2).put hD, ys ++ [v], upd_same, ?_⟩)
  · rw [grow, List.filter_append, List.map_append]
    simp only [List.filter_cons, hp, List.filter_nil, Bool.false_eq_true, if_false, List.map_nil, List.append_nil]
    exact im.up (Tp.of k2)
  · refine szLt ?_
    rw [im.length, List.length_map]
    have h1 := List.length_filter_le p (as.take i)
    rw [List.length_take] at h1
    omega
  · rw [grow, List.filter_append, List.map_append]
    simp only [List.filter_cons, hp, List.filter_nil, if_true, List.map_cons, List.map_nil]
    exact ((im.up (Tp.of k2)).snoc iv).up ((Tp.refl H2).lst (k2 _ _ hys))
/-- [.. for target in a list of data if ..] -/
theorem rd_imL (h : H a = some (.lst xs)) (im : ImAll H xs (as.map enc)) (hl : as.length ≤ 1000000) (t : ImT enc out p as g tt te vs σ H)
    (hd : ∀ D H' ys, H D = none → Same H H' → H' D = some (.lst ys) → ImAll H' ys ((as.filter p).map out) → Q (.ref D) H') : ∃ b, V.ref a = .ref b ∧ (∃ xs, SqL K H b xs) ∧ LcW (Itl K b) g tt te vs σ H Q := by
  refine rd_clL (SqL.of h) (fun D i H' => ImP enc out p as H D i H') (fun D hD => ImP.zero hD) (fun D i H' _ _ h' => SqL.of (h'.1 _ _ h)) (fun D i x H' hD hx hP => ?_) (fun D H' hD hP => ?_)
  · obtain ⟨d, hd, ix⟩ := im.getV hx
    rw [List.getElem?_map] at hd
    obtain ⟨y, hy, rfl⟩ := Option.map_eq_some_iff.mp hd
    exact ImP.step hl t hD hy (ix.up (Tp.of hP.1)) hP
  · obtain ⟨k, ys, hys, im'⟩ := hP
    have l : xs.length = as.length := by rw [im.length, List.length_map]
    rw [l, List.take_length] at im'
    exact hd D H' ys hD k hys im'
theorem rd_imT (h : H a = some (.tup xs)) (im : ImAll H xs (as.map enc)) (hl : as.length ≤ 1000000) (t : ImT enc out p as g tt te vs σ H)
    (hd : ∀ D H' ys, H D = none → Same H H' → H' D = some (.lst ys) → ImAll H' ys ((as.filter p).map out) → Q (.ref D) H') : ∃ b, V.ref a = .ref b ∧ (∃ xs, SqT K H b xs) ∧ LcW (Itt K b) g tt te vs σ H Q := by
  refine rd_clT (SqT.of h) (fun D i H' => ImP enc out p as H D i H') (fun D hD => ImP.zero hD) (fun D i H' _ _ h' => SqT.of (h'.1 _ _ h)) (fun D i x H' hD hx hP => ?_) (fun D H' hD hP => ?_)
  · obtain ⟨d, hd, ix⟩ := im.getV hx
    rw [List.getElem?_map] at hd
    obtain ⟨y, hy, rfl⟩ := Option.map_eq_some_iff.mp hd
    exact ImP.step hl t hD hy (ix.up (Tp.of hP.1)) hP
  · obtain ⟨k, ys, hys, im'⟩ := hP
    have l : xs.length = as.length := by rw [im.length, List.length_map]
    rw [l, List.take_length] at im'
    exact hd D H' ys hD k hys im'
theorem eqv_pair (a b : Str) (i j : Int) : PyData.eqv (.tuple [.str a, .int i]) (.tuple [.str b, .int j]) = (decide (a = b) && decide (i = j)) := by
  rw [Bool.eq_iff_iff, eqv_iff _ _ rfl rfl, Bool.and_eq_true, decide_eq_true_eq, decide_eq_true_eq]
  constructor
  · intro h
    obtain ⟨h1, h2⟩ := List.cons.inj (PyData.tuple.inj h)
    exact ⟨PyData.str.inj h1, PyData.int.inj (List.cons.inj h2).1⟩
  · rintro ⟨rfl, rfl⟩
    rfl
/-- the distinct ones, as they are first met -/
theorem dist_step (ns : List Int) (i : Nat) {n : Int} (h : ns[i]? = some n) : PyProof.Rows.firstMet (fun i => ns.getD i 0) (i + 1) = putI (PyProof.Rows.firstMet (fun i => ns.getD i 0) i) n := by
  have e : ns.getD i 0 = n := by rw [List.getD_eq_getElem?_getD, h]; rfl
  rw [firstMet_succ]
  show step_dedup _ (ns.getD i 0) = _
  rw [e]
  unfold step_dedup putI
  by_cases c : n ∈ PyProof.Rows.firstMet (fun i => ns.getD i 0) i
  · rw [if_pos c, if_pos (show ((PyProof.Rows.firstMet (fun i => ns.getD i 0) i).any fun x => x == n) = true from List.any_eq_true.mpr ⟨n, c, beq_self_eq_true n⟩)]
  · rw [if_neg c, if_neg (fun q => by obtain ⟨y, h1, h2⟩ := List.any_eq_true.mp q; rw [eq_of_beq h2] at h1; exact c h1)]
/-! ### a walk over the keys of a dict, which is locked meanwhile -/
theorem rd_lock {t : TS} {D : Ends} {d : Addr} {u : HO} (h : H d = some u) (mu : Mut (some u)) (q : ∀ od, t ⟨fun σ' H' => H' d = some (.frz od u) ∧ D.nx σ' (upd H' d u), fun v H' => H' d = some (.frz od u) ∧ D.rt v (upd H' d u), fun σ' H' => H' d = some (.frz od u) ∧ D.bk σ' (upd H' d u), fun σ' H' => H' d = some (.frz od u) ∧ D.ct σ' (upd H' d u)⟩ σ (upd H d (.frz od u))) : tLock t D σ H := ⟨d, u, h, mu, q⟩
theorem rd_dIn {ty td : TE} (q : ty σ H fun y H1 => td σ H1 fun x H2 => ∃ a o, x = .ref a ∧ DGet H2 a y o ∧ Q (.bl o.isSome) H2) : tDIn ty td σ H Q := q
theorem rd_forK {td : TE} {s : TS} {D : Ends} (q : td σ H fun x H1 => ∃ d o, x = .ref d ∧ ((∃ kvs, H1 d = some (.frz o (.dK kvs)) ∧ ForW (Itk d o kvs) g s D σ H1) ∨ ∃ kvs, H1 d = some (.frz o (.dT kvs)) ∧ ForW (Itkt d o kvs) g s D σ H1)) : tFor (iKeys td) g s D σ H := q
theorem rd_itK {d : Addr} {o : Obj} {kvs : List (Key × V)} {s : TS} {D : Ends} (h : H d = some (.frz o (.dK kvs))) (Pv : Nat → St → Hp → Prop) (h0 : Pv 0 σ H) (hl : ∀ i σ H, i ≤ kvs.length → Pv i σ H → H d = some (.frz o (.dK kvs)))
    (hs : ∀ i k v σ H', kvs[i]? = some (k, v) → Pv i σ H' → g (kV k) σ H' fun σ2 H2 => s { D with nx := Pv (i + 1), ct := Pv (i + 1), bk := D.nx } σ2 H2) (hd : ∀ σ H', Pv kvs.length σ H' → D.nx σ H') :
    ∃ d' o', V.ref d = .ref d' ∧ ((∃ kvs, H d' = some (.frz o' (.dK kvs)) ∧ ForW (Itk d' o' kvs) g s D σ H) ∨ ∃ kvs, H d' = some (.frz o' (.dT kvs)) ∧ ForW (Itkt d' o' kvs) g s D σ H) := by
  refine ⟨d, o, rfl, .inl ⟨kvs, h, ?_⟩⟩
  refine for_it walk_keys Pv h0 (fun i σ H hi p => hl i σ H hi p) ?_ hd
  rintro i x σ' H1 H2 hi hP ⟨rfl, k, v, hk, rfl⟩
  exact hs i k v σ' H2 hk hP
/-! ### a walk over a list or a tuple -/
def LT (H : Hp) (p : Addr) (xs : List V) : Prop := H p = some (.lst xs) ∨ H p = some (.tup xs)
theorem LT.one {H Hc H' : Hp} {p : Addr} {xs : List V} (h : LT H p xs) (k1 : Same H Hc) (k2 : Same H H') : ∀ o, Hc p = some o → H' p = some o := fun o e => by
  rcases h with h | h
  · cases (k1 _ _ h).symm.trans e
    exact k2 _ _ h
  · cases (k1 _ _ h).symm.trans e
    exact k2 _ _ h
theorem LT.up {H H' : Hp} {p : Addr} {xs : List V} (h : LT H p xs) (k : Same H H') : LT H' p xs := h.elim (fun h => .inl (k _ _ h)) fun h => .inr (k _ _ h)
theorem rd_forV {i : Nat} {p : Addr} {s : TS} {D : Ends} (hv : σ[i]? = some (some (.ref p))) (h : LT H p xs) (Pv : Nat → St → Hp → Prop) (h0 : Pv 0 σ H) (hl : ∀ i σ' H', Pv i σ' H' → ∀ o, H p = some o → H' p = some o)
    (hs : ∀ i x σ' H', xs[i]? = some x → Pv i σ' H' → g x σ' H' fun σ2 H2 => s { D with nx := Pv (i + 1), ct := Pv (i + 1), bk := D.nx } σ2 H2) (hd : ∀ σ' H', Pv xs.length σ' H' → D.nx σ' H') : tFor (iAny K (tVar i)) g s D σ H := by
  rcases h with h | h
  · exact rd_forL (rd_var hv ⟨p, rfl, ⟨xs, SqL.of h⟩, for_it walk_list Pv h0 (fun i σ' H' _ q => SqL.of (hl i σ' H' q _ h)) (fun i x σ' H1 H2 hi hP y => by rw [y.1]; exact hs i x σ' H1 y.2 hP) hd⟩)
  · exact rd_forT (rd_var hv ⟨p, rfl, ⟨xs, SqT.of h⟩, for_it walk_tup Pv h0 (fun i σ' H' _ q => SqT.of (hl i σ' H' q _ h)) (fun i x σ' H1 H2 hi hP y => by rw [y.1]; exact hs i x σ' H1 y.2 hP) hd⟩)
/-- [.. for i in range(n)] -/
theorem rd_imR {H : Hp} {σ : St} {vs : List Nat} {g : TG} {tt : TT} {te : TE} {Q : VK} {n : Int} {p : Nat → Bool} {out : Nat → PyData} (b0 : 0 ≤ n) (b1 : n ≤ 1000000) (t : ImT (fun i : Nat => .int (i : Int)) out p (List.range n.toNat) g tt te vs σ H)
    (hd : ∀ D H' ys, H D = none → Same H H' → H' D = some (.lst ys) → ImAll H' ys (((List.range n.toNat).filter p).map out) → Q (.ref D) H') : ∃ j : Int, [V.int n] = [.int j] ∧ -(2 ^ 62) ≤ j ∧ j < 2 ^ 62 ∧ LcW (Itr 0 j.toNat) g tt te vs σ H Q := by
  refine rd_clR (by omega) (by omega) (fun D i H' => ImP (fun i : Nat => .int (i : Int)) out p (List.range n.toNat) H D i H') (fun D hD => ImP.zero hD) (fun D i H' hD hi hP => ?_) (fun D H' hD hP => ?_)
  · exact ImP.step (y := i) (by rw [List.length_range]; omega) t hD (by rw [List.getElem?_range (by omega)]) (.int _) hP
  · obtain ⟨k, ys, hys, im'⟩ := hP
    rw [List.take_of_length_le (by rw [List.length_range]; exact Nat.le_refl _)] at im'
    exact hd D H' ys hD k hys im'
end
end Mine
namespace Mine
open PySem PySem.Spec PyProof.Rows L2
theorem rd_iteS {σ : St} {H : Hp} {Q : VK} {c : Bool} {a b : Str} (q : Q (.str (if c = true then a else b)) H) : if c = true then tC (.str a) σ H Q else tC (.str b) σ H Q := by
  cases c <;> exact q
end Mine

/-! ## Exceptions of own classes: raised, let out, caught -/
namespace Mine
open PySem PySem.Spec PyProof.Rows L2
set_option linter.all false
/-- an own class over ValueError, however deep, made with a text -/
structure ExcF (K : PySem.W.Frag) (mg : Str → Option Value) (x : Str) (C : Addr) : Prop where
  g : mg x = some (.ref C)
  x : PySem.W.excIn K C [.type "ValueError", .type "Exception", .type "BaseException", .type "object"] "ValueError.__new__" = true
  k : PySem.W.keepIn K (.ref C) = true
  b : PySem.W.subIn K (.ref C) (.type "BaseException") = some true
  t : PySem.W.typeIn K (.ref C) = some (.type "type")
  i : PySem.W.isClsIn K C = true
theorem exm_to {K : PySem.W.Frag} {C D : Addr} {b : Bool} (h1 : PySem.W.subIn K (.ref D) (.type "BaseException") = some true) (h2 : PySem.W.isClsIn K D = true) (h3 : PySem.W.typeIn K (.ref D) = some (.type "type")) (h4 : PySem.W.subIn K (.ref C) (.ref D) = some b) :
    PySem.W.exmOne K (.ref C) (.ref D) = some b := by
  have e1 : (PySem.W.subIn K (.ref D) (.type "BaseException") == some true) = true := by rw [h1] <;> rfl
  have e2 : ((PySem.W.clsIn K D).isSome && PySem.W.typeIn K (.ref D) == some (.type "type")) = true := by
    have h2' : (PySem.W.clsIn K D).isSome = true := h2
    rw [h2', h3] <;> rfl
  show (if (PySem.W.subIn K (.ref D) (.type "BaseException") == some true) = true then (if ((PySem.W.clsIn K D).isSome && PySem.W.typeIn K (.ref D) == some (.type "type")) = true then PySem.W.subIn K (.ref C) (.ref D) else none) else none) = some b
  rw [if_pos e1, if_pos e2]
  exact h4
theorem ExcF.m {K : PySem.W.Frag} {mg : Str → Option Value} {y : Str} {C D : Addr} {b : Bool} (e : ExcF K mg y D) (h : PySem.W.subIn K (.ref C) (.ref D) = some b) : PySem.W.exmOne K (.ref C) (.ref D) = some b := exm_to e.b e.i e.t h
theorem ExcF.one {K : PySem.W.Frag} {mg : Str → Option Value} {x : Str} {C D : Addr} (e : ExcF K mg x C) (f : mg x = some (.ref D)) : D = C := by
  have := e.g.symm.trans f
  cases this
  rfl
/-- promises that tell what is raised, too -/
abbrev sp1x (Φ : V → Hp → VK → XK → Prop) : Sp := fun vs H Q E => ∃ a, vs = [a] ∧ Φ a H Q E
abbrev sp2x (Φ : V → V → Hp → VK → XK → Prop) : Sp := fun vs H Q E => ∃ a b, vs = [a, b] ∧ Φ a b H Q E
abbrev sp3x (Φ : V → V → V → Hp → VK → XK → Prop) : Sp := fun vs H Q E => ∃ a b c, vs = [a, b, c] ∧ Φ a b c H Q E
abbrev sp4x (Φ : V → V → V → V → Hp → VK → XK → Prop) : Sp := fun vs H Q E => ∃ a b c d, vs = [a, b, c, d] ∧ Φ a b c d H Q E
abbrev sp5x (Φ : V → V → V → V → V → Hp → VK → XK → Prop) : Sp := fun vs H Q E => ∃ a b c d e, vs = [a, b, c, d, e] ∧ Φ a b c d e H Q E
section
variable {X : Cx} {CX : CXT} {k : Nat} {ps : List Str} {sp : Sp} {E : St → XK} {x : Str} {st : Stmt} {p pos : Pos} {e : Expr} {es : List Expr} {t tk : TA} {kws : List Keyword}
theorem run_keepsS {pins : List (Addr × Obj)} {σ : St} {H : Hp} {s : Shared} {Q : VK} {args : List Value} {kwargs : List (Str × Value)} {us : List Value} {vs : List V} {f : Addr} {fd : FuncData} (O : Keeps X.prog X.w X.K X.mg X.base CX k f fd ps sp)
    (hr : Rm k X.A) (hx : PassesAt CX X σ (E σ)) (I : Inv X pins σ H s) (b : BindsTo s fd ⟨args, kwargs⟩ (ps.zip us)) (r : Vals vs us) (h : sp vs H Q (E σ)) :
    wpAny (model X.prog X.w) X.A (call (.ref f) args kwargs) (EP X pins σ Q) X.xe s := by
  have run := O.2 X.A X.stack s H ⟨args, kwargs⟩ us vs Q (E σ) hr I.env0 b r h
  refine wpAny_call (codeAny_mono run ?_)
  intro res s2 hres
  match res, hres with
  | .error e, hres => exact hx pins H s e s2 I hres
  | .ok (.ret u), hres => exact I.after hres
theorem pe_calS (C : Cal X.prog X.w X.K X.mg X.base CX k x st ps sp) (hr : Rm k X.A) (hg : Gl X x) (hx : ∀ σ, PassesAt CX X σ (E σ)) (ha : PA X (e :: es) t)
    (hdb : (x == ("__debug__" : Str)) = false := by decide) (he : starEach (e :: es) X.env = (false, eval e X.env) :: starEach es X.env := by rfl) (hpl : (backTo pos (starEach es X.env)).any (·.1) = false := by rfl) :
    PE X (.Call (.Name x p) (e :: es) [] pos) (tCallS sp E t) := by
  obtain ⟨f, fd, F, hm, B, O⟩ := C
  constructor
  intro pins s σ H Q I h
  refine wpAny_Call_Name_kw (ld_glob I hg hm ?_ hdb)
  refine PySem.W.callWith_K (h₀ := X.base) I.ok.mod.kin F.kp (thn (ha.run pos pins s σ H _ I h) ?_) he hpl
  rintro us s1 ⟨vs, H1, I1, r, q⟩
  refine And.intro I1.kIn ?_
  have hl : (us ++ []).length = ps.length := by
    rw [List.append_nil, ← Vals.length r]
    exact O.1 _ _ _ _ q
  have b := B s1 us I1.kIn hl
  rw [List.append_nil] at b
  exact run_keepsS O hr (hx σ) I1 b r q
def tCalKS (n m : Nat) (pm : List Nat) (sp : Sp) (E : St → XK) (t tk : TA) : TE := fun σ H Q => t σ H fun vs H1 => tk σ H1 fun zs H2 => vs.length = n ∧ zs.length = m ∧ sp (gK pm vs zs) H2 Q (E σ)
theorem pe_calKS {n : Nat} {ks : List Str} {pm : List Nat} (C : Cal X.prog X.w X.K X.mg X.base CX k x st ps sp) (hr : Rm k X.A) (hg : Gl X x) (hb : KwOk x st ps n ks pm) (hx : ∀ σ, PassesAt CX X σ (E σ))
    (ha : PA X (e :: es) t) (hkw : PK X kws tk) (hall : (backToKw pos (keywordEach kws X.env)).all (·.1.isSome) = true := by rfl) (hks : (backToKw pos (keywordEach kws X.env)).filterMap (·.1) = ks := by rfl)
    (hdb : (x == ("__debug__" : Str)) = false := by decide) (he : starEach (e :: es) X.env = (false, eval e X.env) :: starEach es X.env := by rfl)
    (hpl : ((backTo pos (starEach (e :: es) X.env)).any (·.1) || (backToKw pos (keywordEach kws X.env)).any (·.1.isNone)) = false := by rfl) :
    PE X (.Call (.Name x p) (e :: es) kws pos) (tCalKS n ks.length pm sp E t tk) := by
  obtain ⟨f, fd, F, hm, B, O⟩ := C
  constructor
  intro pins s σ H Q I h
  refine wpAny_Call_Name_kw (ld_glob I hg hm ?_ hdb)
  refine PySem.W.callWith_KW (h₀ := X.base) I.ok.mod.kin F.kp hall (thn (ha.run pos pins s σ H _ I h) ?_) hpl he
  rintro us s1 ⟨vs, H1, I1, r, q⟩
  refine thn (hkw.run pos pins s1 σ H1 _ I1 q) ?_
  rintro ws s2 ⟨zs, H2, I2, rz, l1, l2, q2⟩
  refine And.intro I2.kIn ?_
  rw [hks]
  exact run_keepsS O hr (hx σ) I2 (kw_binds F hb s2 (by have := Vals.length r; simpa [this] using l1) (by rw [← Vals.length rz]; exact l2)) (gK_rel r rz) q2
theorem pe_calK0S {ks : List Str} {pm : List Nat} (C : Cal X.prog X.w X.K X.mg X.base CX k x st ps sp) (hr : Rm k X.A) (hg : Gl X x) (hb : KwOk x st ps 0 ks pm) (hx : ∀ σ, PassesAt CX X σ (E σ))
    (hkw : PK X kws tk) (hall : (backToKw pos (keywordEach kws X.env)).all (·.1.isSome) = true := by rfl) (hks : (backToKw pos (keywordEach kws X.env)).filterMap (·.1) = ks := by rfl)
    (hdb : (x == ("__debug__" : Str)) = false := by decide)
    (hpl : ((backTo pos (starEach [] X.env)).any (·.1) || (backToKw pos (keywordEach kws X.env)).any (·.1.isNone)) = false := by rfl) :
    PE X (.Call (.Name x p) [] kws pos) (tCalKS 0 ks.length pm sp E tNil tk) := by
  obtain ⟨f, fd, F, hm, B, O⟩ := C
  constructor
  intro pins s σ H Q I h
  refine wpAny_Call_Name_kw (ld_glob I hg hm ?_ hdb)
  refine PySem.W.callWith_KW0 (h₀ := X.base) I.ok.mod.kin F.kp hall ?_ hpl
  have h' : tk σ H fun zs H2 => ([] : List V).length = 0 ∧ zs.length = ks.length ∧ sp (gK pm [] zs) H2 Q (E σ) := h
  refine thn (hkw.run pos pins s σ H _ I h') ?_
  rintro ws s2 ⟨zs, H2, I2, rz, l1, l2, q2⟩
  refine And.intro I2.kIn ?_
  rw [hks]
  exact run_keepsS (us := gK pm [] ws) O hr (hx σ) I2 (kw_binds F hb s2 (us := []) rfl (by rw [← Vals.length rz]; exact l2)) (gK_rel .nil rz) q2
end
/-! ### raise, try -/
def tRaise (C : Addr) (W : WX) : TS := fun _ σ H => W (.ref C) none σ H
theorem ps_raiseX {X : Cx} {W : WX} {x m : Str} {j : Nat} {C : Addr} {p p2 p3 pos : Pos} (hc : X.calm = true) (tk : Takes X W) (e : ExcF X.K X.mg x C) (hg : Gl X x) (hdb : (x == ("__debug__" : Str)) = false := by decide) :
    PS X (.Raise (some (.Call (.Name x p) [.Constant (.str m) j p2] [] p3)) none pos) (tRaise C W) :=
  ps_raise hc tk (pmk_own PySem.F.excBase_ValueError e.x e.g e.k (raises_own e.b e.t) hg hdb)
def tTryO (K : PySem.W.Frag) (C : Addr) (tb : WX → TS) (ts : Addr → Value → Option Addr → TS) (Wout : WX) : TS := fun D σ H => tb (wOnly K (.ref C) ts Wout D) D σ H
def tTryM (K : PySem.W.Frag) (l : List (Value × (Addr → Value → Option Addr → TS))) (tb : WX → TS) (Wout : WX) : TS := fun D σ H => tb (wMany K Wout D l) D σ H
def tTryA (K : PySem.W.Frag) (C : Addr) (i : Nat) (tb : WX → TS) (ts : Addr → Value → Option Addr → TS) (Wout : WX) : TS := fun D σ H => tb (wAs K (.ref C) i ts Wout D) D σ H
section
variable {X : Cx} {K : PySem.W.Frag} {x n : Str} {C : Addr} {i : Nat} {body suite : List Stmt} {b₀ : Stmt} {np pos pos' : Pos} {tb : WX → TS} {ts : Addr → Value → Option Addr → TS} {Wout : WX}
theorem names_of (e : ExcF X.K X.mg x C) (hg : Gl X x) (hdb : (x == ("__debug__" : Str)) = false := by decide) : Names X x (.ref C) := ⟨hg, hdb, .inl e.g⟩
theorem ps_tryO (hs : X.stack = X.env :: X.outer) (hf : X.env.frame = some X.env.locals) (hc : Names X x (.ref C)) (tk : Takes X Wout) (ek : X.K = K)
    (hb : ∀ (W : WX) (pn : List (Addr × Obj)) (xe : Value → Shared → Prop), Takes (X.tr pn xe) W → PassesOwn (model X.prog X.w) X.A X.env xe → PSs (X.tr pn xe) body (tb W))
    (hsu : ∀ (a : Addr) (oe : Obj) (cls : Value) (d : Option Addr) (pn : List (Addr × Obj)), Zc cls d oe → (∃ vs, oe.data = .fields vs) → PSs (X.suite a ((a, oe) :: pn)) (b₀ :: suite) (ts a cls d)) :
    PS X (.Try body [.ExceptHandler (some (.Name x np)) none (b₀ :: suite) pos'] [] [] pos) (tTryO K C tb ts Wout) := by
  subst ek
  exact ps_try_only hs hf hc tk hb hsu
theorem ps_tryM {h₀ : ExceptHandler} {hds : List ExceptHandler} {l : List (Value × (Addr → Value → Option Addr → TS))} (hs : X.stack = X.env :: X.outer) (hf : X.env.frame = some X.env.locals) (tk : Takes X Wout) (ek : X.K = K)
    (hb : ∀ (W : WX) (pn : List (Addr × Obj)) (xe : Value → Shared → Prop), Takes (X.tr pn xe) W → PassesOwn (model X.prog X.w) X.A X.env xe → PSs (X.tr pn xe) body (tb W))
    (hh : HdsOk X (h₀ :: hds) l) : PS X (.Try body (h₀ :: hds) [] [] pos) (tTryM K l tb Wout) := by
  subst ek
  exact ps_try_many hs hf tk hb hh
theorem ps_tryA (hs : X.stack = X.env :: X.outer) (hf : X.env.frame = some X.env.locals) (hN : X.N.Nodup) (hi : X.N[i]? = some n) (hln : X.env.kindOf n = some .local) (hc : Names X x (.ref C)) (tk : Takes X Wout) (ek : X.K = K)
    (hb : ∀ (W : WX) (pn : List (Addr × Obj)) (xe : Value → Shared → Prop), Takes (X.tr pn xe) W → PassesOwn (model X.prog X.w) X.A X.env xe → PSs (X.tr pn xe) body (tb W))
    (hsu : ∀ (a : Addr) (oe : Obj) (cls : Value) (d : Option Addr) (pn : List (Addr × Obj)), Zc cls d oe → (∃ vs, oe.data = .fields vs) → PSs (X.suite a ((a, oe) :: pn)) (b₀ :: suite) (ts a cls d)) :
    PS X (.Try body [.ExceptHandler (some (.Name x np)) (some n) (b₀ :: suite) pos'] [] [] pos) (tTryA K C i tb ts Wout) := by
  subst ek
  exact ps_try_as hs hf hN hi hln hc tk hb hsu
end
section
variable {σ : St} {H : Hp} {Q : VK} {D : Ends} {K : PySem.W.Frag} {C : Addr} {W Wout : WX} {tb : WX → TS} {ts : Addr → Value → Option Addr → TS} {cls : Value} {d : Option Addr} {i : Nat} {l : List (Value × (Addr → Value → Option Addr → TS))} {c : Value}
theorem rd_callS {sp : Sp} {E : St → XK} {tA : TA} (q : tA σ H fun vs H1 => sp vs H1 Q (E σ)) : tCallS sp E tA σ H Q := q
theorem rd_callKS {n m : Nat} {pm : List Nat} {sp : Sp} {E : St → XK} {t tk : TA} (q : t σ H fun vs H1 => tk σ H1 fun zs H2 => vs.length = n ∧ zs.length = m ∧ sp (gK pm vs zs) H2 Q (E σ)) : tCalKS n m pm sp E t tk σ H Q := q
theorem rd_raise (q : W (.ref C) none σ H) : tRaise C W D σ H := q
theorem rd_tryO (q : tb (wOnly K (.ref C) ts Wout D) D σ H) : tTryO K C tb ts Wout D σ H := q
theorem rd_tryM (q : tb (wMany K Wout D l) D σ H) : tTryM K l tb Wout D σ H := q
theorem rd_tryA (q : tb (wAs K (.ref C) i ts Wout D) D σ H) : tTryA K C i tb ts Wout D σ H := q
theorem rd_hit {c : Value} (e : PySem.W.exmOne K cls c = some true) (q : ∀ a, H a = none → ts a cls d D σ H) : wOnly K c ts Wout D cls d σ H := ⟨true, e, fun _ => q, fun h => nomatch h⟩
theorem rd_miss {c : Value} (e : PySem.W.exmOne K cls c = some false) (q : Wout cls d σ H) : wOnly K c ts Wout D cls d σ H := ⟨false, e, (fun h => nomatch h), fun _ => q⟩
theorem rd_hitM (e : PySem.W.exmOne K cls c = some true) (q : ∀ a, H a = none → ts a cls d D σ H) : wMany K Wout D ((c, ts) :: l) cls d σ H := ⟨true, e, fun _ => q, fun h => nomatch h⟩
theorem rd_missM (e : PySem.W.exmOne K cls c = some false) (q : wMany K Wout D l cls d σ H) : wMany K Wout D ((c, ts) :: l) cls d σ H := ⟨false, e, (fun h => nomatch h), fun _ => q⟩
theorem rd_hitA {c : Value} (e : PySem.W.exmOne K cls c = some true) (q : ∀ a, H a = none → ts a cls d { nx := fun σ' H' => D.nx (σ'.set i none) H', rt := D.rt, bk := fun σ' H' => D.bk (σ'.set i none) H', ct := fun σ' H' => D.ct (σ'.set i none) H' } (σ.set i (some (.ref a))) H) : wAs K c i ts Wout D cls d σ H := ⟨true, e, q |> fun q _ => q, fun h => nomatch h⟩
theorem rd_sp1x {Φ : V → Hp → VK → XK → Prop} {E : XK} {a : V} (q : Φ a H Q E) : sp1x Φ [a] H Q E := ⟨a, rfl, q⟩
theorem rd_sp2x {Φ : V → V → Hp → VK → XK → Prop} {E : XK} {a b : V} (q : Φ a b H Q E) : sp2x Φ [a, b] H Q E := ⟨a, b, rfl, q⟩
theorem rd_sp3x {Φ : V → V → V → Hp → VK → XK → Prop} {E : XK} {a b c : V} (q : Φ a b c H Q E) : sp3x Φ [a, b, c] H Q E := ⟨a, b, c, rfl, q⟩
theorem rd_sp4x {Φ : V → V → V → V → Hp → VK → XK → Prop} {E : XK} {a b c d : V} (q : Φ a b c d H Q E) : sp4x Φ [a, b, c, d] H Q E := ⟨a, b, c, d, rfl, q⟩
end
end Mine

/-! ## Tuples that are known to the last, dicts of pairs, their items, sorts of data -/
namespace Mine
open PySem PySem.Spec PyProof.Rows L2
set_option linter.all false
/-- a tuple that has no dict of its own -/
def Ft (H : Hp) (a : Addr) (xs : List V) : Prop := ∃ o : Obj, o.dict = none ∧ H a = some (.frz o (.tup xs))
/-- any tuple of the heap -/
def Rt (H : Hp) (a : Addr) (xs : List V) : Prop := Rd H a (.tup xs)
theorem Ft.rt {H : Hp} {a : Addr} {xs : List V} (h : Ft H a xs) : Rt H a xs := let ⟨o, _, e⟩ := h; .inr ⟨o, e⟩
theorem Rt.of {H : Hp} {a : Addr} {xs : List V} (h : H a = some (.tup xs)) : Rt H a xs := .inl h
theorem Rt.sq {K : PySem.W.Frag} {H : Hp} {a : Addr} {xs : List V} (h : Rt H a xs) : SqT K H a xs := .inl h
/-- tuples stay -/
structure Ty (H H' : Hp) : Prop where
  t : ∀ a xs, H a = some (.tup xs) → H' a = some (.tup xs)
  f : ∀ a o xs, H a = some (.frz o (.tup xs)) → H' a = some (.frz o (.tup xs))
theorem Ty.refl (H : Hp) : Ty H H := ⟨fun _ _ h => h, fun _ _ _ h => h⟩
theorem Ty.trans {A B C : Hp} (h : Ty A B) (k : Ty B C) : Ty A C := ⟨fun a xs q => k.t a xs (h.t a xs q), fun a o xs q => k.f a o xs (h.f a o xs q)⟩
theorem Ty.of {A B : Hp} (h : Same A B) : Ty A B := ⟨fun a xs q => h a _ q, fun a o xs q => h a _ q⟩
theorem Ty.new {A B : Hp} {p : Addr} {o : HO} (h : Ty A B) (n : B p = none) : Ty A (upd B p o) := h.trans (Ty.of fun a u q => by rw [upd_ne (ne_of_none q n)]; exact q)
theorem Ty.lst {A B : Hp} {p : Addr} {o : HO} {ys : List V} (h : Ty A B) (n : B p = some (.lst ys)) : Ty A (upd B p o) :=
  h.trans ⟨fun a xs q => by rw [upd_ne (fun e => by rw [e, n] at q; cases q)]; exact q, fun a u xs q => by rw [upd_ne (fun e => by rw [e, n] at q; cases q)]; exact q⟩
theorem Ty.dct {A B : Hp} {p : Addr} {o : HO} {ys : List (Key × V)} (h : Ty A B) (n : B p = some (.dK ys)) : Ty A (upd B p o) :=
  h.trans ⟨fun a xs q => by rw [upd_ne (fun e => by rw [e, n] at q; cases q)]; exact q, fun a u xs q => by rw [upd_ne (fun e => by rw [e, n] at q; cases q)]; exact q⟩
theorem Rt.up {H H' : Hp} {a : Addr} {xs : List V} (h : Rt H a xs) (k : Ty H H') : Rt H' a xs := h.elim (fun e => .inl (k.t _ _ e)) fun ⟨o, e⟩ => .inr ⟨o, k.f _ _ _ e⟩
theorem Ft.up {H H' : Hp} {a : Addr} {xs : List V} (h : Ft H a xs) (k : Ty H H') : Ft H' a xs := let ⟨o, d, e⟩ := h; ⟨o, d, k.f _ _ _ e⟩
section
variable {X : Cx} {K : PySem.W.Frag}
/-! ### tuples made so -/
def xTupF (K : PySem.W.Frag) : List V → Hp → VK → Prop := fun xs H Q => ∃ p ys, xs = [.ref p] ∧ SqL K H p ys ∧ ∀ l o, o.dict = none → H l = none → Q (.ref l) (upd H l (.frz o (.tup ys)))
theorem callTupF (e : X.K = K := by rfl) : CallR X (.type "tuple") (xTupF K) := by
  subst e
  intro pins s σ H xs us Q I r h
  obtain ⟨p, ys, rfl, hq, q⟩ := h
  obtain ⟨u, rfl, rx⟩ := vals1 r
  cases rx
  obtain ⟨its, r', pl, hz⟩ := I.list hq
  have hlen := r'.length
  refine call_tuple_list pl.isList (fun h' kp => ?_) (by simp only [List.size_toArray] <;> omega)
  have I1 : Inv X pins σ H { s with heap := h' } := I.kept (t' := s.toks) kp
  have I2 : Inv X pins σ (upd H h'.objs.size (.frz { cls := .type "tuple", data := .seq its.toArray } (.tup ys))) { s with heap := h'.push { cls := .type "tuple", data := .seq its.toArray } } :=
    I1.laid (t' := s.toks) (fun b o e => Heap.get?_push_of_some _ e) (Nat.le_refl _) (show ObjOk X.prog X.w _ _ _ (.frz _ (.tup ys)) from ⟨Heap.get?_push_size _ rfl, hz, its, r', IsTup.new _ _⟩)
  exact ⟨.ref h'.objs.size, _, I2, rfl, q _ _ rfl (I1.hok.fresh (Nat.le_refl _))⟩
def tTupF (t : TA) : TE := fun σ H Q => t σ H fun xs H1 => xs.length ≤ sizeLine ∧ ∀ p o, o.dict = none → H1 p = none → Q (.ref p) (upd H1 p (.frz o (.tup xs)))
theorem pe_tupF {es : List Expr} {t : TA} {pos : Pos} {x1 : Nat} (h : PA X es t) : PE X (.Tuple es x1 pos) (tTupF t) := by
  refine ⟨fun pins s σ H Q I hq => ?_⟩
  refine wpAny_Tuple_spliced (thn (h.run pos pins s σ H _ I hq) fun us s1 ⟨xs, H1, I1, r, z, q⟩ => ⟨by rw [← r.length]; exact z, ?_⟩)
  have hf : H1 s1.heap.objs.size = none := I1.hok.fresh (Nat.le_refl _)
  refine ⟨.ref s1.heap.objs.size, upd H1 s1.heap.objs.size (.frz { cls := .type "tuple", data := .seq us.toArray } (.tup xs)), I1.laid (t' := s1.toks) (fun b u e => Heap.get?_push_of_some _ e) (Nat.le_refl _) ?_, rfl, q _ _ rfl hf⟩
  exact ⟨Heap.get?_push_size _ rfl, z, us, r, ⟨_, Heap.get?_push_size _ rfl, rfl, _, rfl⟩⟩
/-! ### dict(t), t a tuple of pairs -/
theorem refs_nth {ps : List Addr} {its : List Value} {j : Nat} {b : Addr} (h : Vals (ps.map V.ref) its) (e : ps[j]? = some b) : its[j]? = some (.ref b) := by
  rw [refs_at h, List.getElem?_map, e]
  rfl
def xDictT (K : PySem.W.Frag) : List V → Hp → VK → Prop := fun xs H Q => ∃ (a : Addr) (ps : List Addr) (kvs : List (Key × V)), xs = [.ref a] ∧ Ft H a (ps.map V.ref) ∧ Paired (fun p kv => SqT K H p [kV kv.1, kv.2]) ps kvs ∧
    ∀ p, H p = none → Q (.ref p) (upd H p (.dK (mergeK [] kvs)))
theorem callDictT (hcalm : X.calm = true) (e : X.K = K := by rfl) : CallR X (.type "dict") (xDictT K) := by
  subst e
  intro pins s σ H xs us Q I r q
  obtain ⟨a, ps, kvs, rfl, ⟨oa, hda, ha⟩, hp, q⟩ := q
  obtain rfl := Vals.ref1 r
  obtain ⟨hoa, hz, its, rv, o', ho', hc', n, hdat⟩ : ObjOk X.prog X.w H s.heap a (.frz oa (.tup (ps.map V.ref))) := I.hok _ _ ha
  have eo : oa = o' := Option.some.inj (hoa.symm.trans ho')
  subst eo
  rw [List.length_map] at hz
  obtain ⟨prs, rel, hl, hpr⟩ := pairs_of I hp
  have li : its.length = ps.length := by rw [← rv.length, List.length_map]
  have hpr' : ∀ (j : Nat) (q : Key × Value), prs[j]? = some q → ∃ u : Value, IsTup s.heap (ps.getD j 0) #[u, q.2] ∧ keyIs q.1 u = true := fun j q e => by
    obtain ⟨b, u, h1, h2, h3⟩ := hpr j q e
    refine ⟨u, ?_, h3⟩
    rw [List.getD_eq_getElem?_getD, h1]
    exact h2
  obtain ⟨pv, lpv, hpv⟩ : ∃ pv : List (Value × Value), pv.length = prs.length ∧ ∀ (j : Nat) (q : Key × Value), prs[j]? = some q → ∃ u : Value, pv[j]? = some (u, q.2) ∧ IsTup s.heap (ps.getD j 0) #[u, q.2] ∧ keyIs q.1 u = true := by
    clear rel hl hpr
    have gen : ∀ (T : Nat → Addr) (l : List (Key × Value)) (c : Nat), (∀ (j : Nat) (q : Key × Value), l[j]? = some q → ∃ u : Value, IsTup s.heap (T (c + j)) #[u, q.2] ∧ keyIs q.1 u = true) →
        ∃ pv : List (Value × Value), pv.length = l.length ∧ ∀ (j : Nat) (q : Key × Value), l[j]? = some q → ∃ u : Value, pv[j]? = some (u, q.2) ∧ IsTup s.heap (T (c + j)) #[u, q.2] ∧ keyIs q.1 u = true := by
      intro T l
      induction l with
      | nil => exact fun c _ => ⟨[], rfl, fun j q e => by simp at e⟩
      | cons x l ih =>
        intro c hx
        obtain ⟨u, h1, h2⟩ := hx 0 x rfl
        obtain ⟨pv, h3, h4⟩ := ih (c + 1) fun j q e => by
          have := hx (j + 1) q (by simpa using e)
          rwa [show c + (j + 1) = c + 1 + j by omega] at this
        refine ⟨(u, x.2) :: pv, by rw [List.length_cons, List.length_cons, h3], fun j q e => ?_⟩
        cases j with
        | zero =>
          have e' : x = q := Option.some.inj e
          subst e'
          exact ⟨u, rfl, h1, h2⟩
        | succ j =>
          obtain ⟨u', a1, a2, a3⟩ := h4 j q (by simpa using e)
          exact ⟨u', by simpa using a1, by rw [show c + (j + 1) = c + 1 + j by omega]; exact a2, a3⟩
    obtain ⟨pv, h1, h2⟩ := gen (fun j => ps.getD j 0) prs 0 fun j q e => by rw [Nat.zero_add]; exact hpr' j q e
    exact ⟨pv, h1, fun j q e => by have := h2 j q e; rwa [Nat.zero_add] at this⟩
  have items : PySem.PairItems s.heap its.toArray (fun j => ps.getD j 0) pv := by
    refine ⟨by rw [List.size_toArray, li, lpv, hl], fun j k v e => ?_⟩
    have lt : j < prs.length := by rw [← lpv]; exact (List.getElem?_eq_some_iff.mp e).1
    obtain ⟨u, e1, e2, e3⟩ := hpv j _ (List.getElem?_eq_getElem lt)
    rw [e] at e1
    cases e1
    have ej : ps[j]? = some (ps.getD j 0) := by
      rw [List.getD_eq_getElem?_getD, List.getElem?_eq_getElem (by omega)]
      rfl
    refine ⟨?_, .inl ?_⟩
    · rw [List.getElem?_toArray]
      exact refs_nth rv ej
    · obtain ⟨o, ho, hc, n, hd⟩ := e2
      exact ⟨o, ho, hc, n, hd⟩
  refine PySem.call_dict_pairs (knd := mixKind X.prog X.w) (kvs := prs) (PySem.PairArg.tuple a its.toArray (fun j => ps.getD j 0) pv) (I.ok.hd hcalm) ⟨⟨oa, n, hoa, hc', hda, hdat⟩, items⟩ ⟨lpv.symm, fun i key v e => ?_⟩ (by rw [lpv, hl]; exact hz) fun h' tk hd' k => ?_
  · have lt : i < prs.length := by rw [← lpv]; exact (List.getElem?_eq_some_iff.mp e).1
    obtain ⟨u, e1, e2, e3⟩ := hpv i _ (List.getElem?_eq_getElem lt)
    have e0 : pv[i]? = some (key, v) := e
    rw [e0] at e1
    cases e1
    exact ⟨_, List.getElem?_eq_getElem lt, e3⟩
  · have hm : (s.heap.objs.size == sysModules) = false := beq_eq_false_iff_ne.mpr (Nat.ne_of_gt I.big)
    have hlen : (mergeK [] kvs).length ≤ sizeLine := by
      refine Nat.le_trans (length_mergeK kvs []) ?_
      rw [List.length_nil, Nat.zero_add, rel.length, hl]
      exact hz
    exact ⟨.ref s.heap.objs.size, upd H s.heap.objs.size (.dK (mergeK [] kvs)), I.laid (t' := tk) (fun b o e => k b o (fun z => nomatch z) e) (Nat.le_refl _) (show ObjOk X.prog X.w _ _ _ (.dK (mergeK [] kvs)) from ⟨hlen, hm, merged [] prs, KV.merge rel .nil, hd'⟩), rfl, q _ (I.hok.fresh (Nat.le_refl _))⟩
/-! ### sorted(xs), xs a list that reads as data -/
theorem vals_each : ∀ {ps : List (V × PyData)} {its : List Value}, Vals (ps.map (·.1)) its → PySem.W.EachIs (fun v (b : V × PyData) => RelV b.1 v) its ps
  | [], its, r => by
    rw [List.map_nil] at r
    cases r
    exact .nil
  | p :: ps, its, r => by
    rw [List.map_cons] at r
    cases r with
    | cons h t => exact .cons h (vals_each t)
theorem each_vals : ∀ {ps : List (V × PyData)} {its : List Value}, PySem.W.EachIs (fun v (b : V × PyData) => RelV b.1 v) its ps → Vals (ps.map (·.1)) its
  | [], _, h => by cases h; exact .nil
  | p :: ps, _, h => by
    cases h with
    | cons h t => exact .cons h (each_vals t)
def xSortD (K : PySem.W.Frag) : List V → Hp → VK → Prop := fun xs H Q => ∃ (a : Addr) (ps : List (V × PyData)), xs = [.ref a] ∧ SqL K H a (ps.map (·.1)) ∧ (∀ p ∈ ps, Dp K H p.1 p.2) ∧ PySem.W.AllAlike (ps.map (·.2)) ∧ PySem.W.Sortable (ps.map (·.2)) ∧ (∀ p ∈ ps, p.2.depth ≤ 60) ∧
  ∀ l, H l = none → Q (.ref l) (upd H l (.lst ((ps.mergeSort (PySem.W.dataLe false (·.2))).map (·.1))))
theorem call_sortD (hu : X.A.units + 65 < cLine) (e : X.K = K := by rfl) : CallR X (.builtin "sorted") (xSortD K) := by
  subst e
  intro pins s σ H vs us Q I r h
  obtain ⟨a, ps, rfl, hs, hd, hal, hk, hdep, q⟩ := h
  obtain ⟨its, rv, pl, hz⟩ := I.list hs
  obtain rfl := Vals.ref1 r
  rw [List.length_map] at hz
  have e := vals_each rv
  refine PySem.W.sorted_data (bs := ps) (enc := (·.2)) (R := fun v (b : V × PyData) => RelV b.1 v) pl.isList e ((PySem.W.each_mem e).mono fun v b hb => ?_) hal hk hz (fun b hb => ?_) fun out hl eo => ?_
  · exact Dp.reads I b.2 b.1 v (hd b hb.2) hb.1
  · have := hdep b hb
    show X.A.units + 2 + b.2.depth < cLine
    omega
  · obtain ⟨c, hc⟩ := sortedAll_at s.heap its (List.toArray out)
    refine ⟨.ref (s.heap.objs.size + 1), upd H (s.heap.objs.size + 1) (.lst ((ps.mergeSort (PySem.W.dataLe false (·.2))).map (·.1))), I.laid (t' := s.toks) (fun b o e => sortedAll_old e) (Nat.le_succ _) ⟨?_, out, c, each_vals eo, hc⟩, rfl, q _ (I.hok.fresh (Nat.le_succ _))⟩
    rw [List.length_map, List.length_mergeSort]
    exact hz
/-! ### d.items(), sorted(d.items()): keys texts, values ints -/
def rItemsK : V → List V → Hp → VK → Prop := fun x xs H Q => ∃ (a : Addr) (kvs : List (Key × V)), x = .ref a ∧ xs = [] ∧ H a = some (.dK kvs) ∧ ∀ p, H p = none → Q (.ref p) (upd H p (L2.DX.itemsO p a))
theorem mt_itemsK : MtR X "dict.items" rItemsK := by
  intro pins s σ H x xs v us Q I rx rxs h
  obtain ⟨a, kvs, rfl, rfl, ha, q⟩ := h
  cases rx
  cases rxs
  obtain ⟨z, hd, vs, rel, o, es, ep, ho, hx, hdat, _⟩ := dk_of I.hok ha
  refine DT.callItems (es := es) (ep := ep) hd ⟨o, ho, hx, hdat⟩ ?_
  have hf : H s.heap.objs.size = none := I.hok.fresh (Nat.le_refl _)
  exact ⟨.ref s.heap.objs.size, upd H s.heap.objs.size (L2.DX.itemsO s.heap.objs.size a), I.laid (t' := s.toks) (fun b u e => Heap.get?_push_of_some _ e) (Nat.le_refl _) (L2.DX.itemsO_ok (Heap.get?_push_size _ rfl)), rfl, q _ hf⟩
/-- an entry of such a dict -/
def kvI (e : Str × Int) : Key × V := (Sum.inr e.1, V.int e.2)
def entD (e : Str × Int) : PyData := .tuple [.str e.1, .int e.2]
theorem pairs_get {P : Program} {w : World} : ∀ {es : List DictEntry} {vs : List (Key × Value)} {j : Nat} {en : DictEntry}, Pairs (mixKind P w) es vs → es[j]? = some en → ∃ kv, vs[j]? = some kv ∧ keyIs kv.1 en.key = true ∧ en.val = kv.2
  | _, _, j, en, .nil, e => by simp at e
  | _, _, 0, en, .cons (kv := kv) h1 h2 h3, e => by
    have e' := Option.some.inj e
    subst e'
    exact ⟨kv, rfl, h1, h2⟩
  | _, _, j + 1, en, .cons (kv := kv) h1 h2 h3, e => by
    obtain ⟨kv', a, b, c⟩ := pairs_get (j := j) h3 (by simpa using e)
    exact ⟨kv', by simpa using a, b, c⟩
def xSortIt : List V → Hp → VK → Prop := fun vs H Q => ∃ (p a : Addr) (ks : List (Str × Int)), vs = [.ref p] ∧ H p = some (L2.DX.itemsO p a) ∧ H a = some (.dK (ks.map kvI)) ∧
  ∀ (H' : Hp) (l : Addr) (ps : List (Addr × Str × Int)), (∀ b o, H b = some o → H' b = some o) → H l = none → H' l = some (.lst (ps.map fun z => V.ref z.1)) → ps.map (·.2) = ks.mergeSort (PySem.W.dataLe false entD) →
    (∀ z ∈ ps, H' z.1 = some (.tup [.str z.2.1, .int z.2.2])) → Q (.ref l) H'
theorem call_sortIt (hc : X.calm = true) (hu : X.A.units + 65 < cLine) : CallR X (.builtin "sorted") xSortIt := by
  intro pins s σ H xs us Q I r h
  obtain ⟨p, a, ks, rfl, hp, ha, q⟩ := h
  obtain rfl := Vals.ref1 r
  have view : s.heap.IsItemsView p a := (show ObjOk X.prog X.w H s.heap p (L2.DX.itemsO p a) from I.hok p _ hp).1
  obtain ⟨z, hd, vs, rel, o, es, ep, ho, hx, hdat, hko, hpr, hn⟩ := dk_of I.hok ha
  have l1 : (ks.map kvI).length = vs.length := Paired.length rel
  rw [List.length_map] at l1 z
  have l2 : es.size = vs.length := by rw [← Array.length_toList]; exact hpr.length
  have hh : X.A.handled = none := I.ok.hd hc
  refine DT.sortedI (es := es) (ep := ep) hh view ⟨o, ho, hx, hdat⟩ (by omega) fun h' tk as hk hlt hl hG => ?_
  have lak : as.length = ks.length := by omega
  have nd : as.Nodup := List.Pairwise.imp (fun h => Nat.ne_of_lt h) hG.rise
  have pr : ∀ (j : Nat) (b : Addr), as[j]? = some b → ∃ (e : Str × Int) (t u : Nat), ks[j]? = some e ∧ h'.get? b = some { cls := .type "tuple", data := .seq #[Value.str e.1 t, Value.int e.2 u] } := by
    intro j b hj
    obtain ⟨en, he, hg⟩ := hG.pairs j b hj
    rw [← Array.getElem?_toList] at he
    obtain ⟨kv, e1, e2, e3⟩ := pairs_get hpr he
    obtain ⟨e0, he0, r1, r2⟩ := L2.DX.pget rel e1
    rw [List.getElem?_map] at he0
    cases hkj : ks[j]? with
    | none =>
      rw [hkj] at he0
      exact nomatch he0
    | some e =>
      rw [hkj] at he0
      have ee : kvI e = e0 := Option.some.inj he0
      subst ee
      have r1 : (Sum.inr e.1 : Key) = kv.1 := r1
      have r2 : RelV (V.int e.2) kv.2 := r2
      rw [← r1] at e2
      obtain ⟨u, r2⟩ := r2
      rcases keyIs_shape e2 with ⟨i, t, h1, h2⟩ | ⟨x, t, h1, h2⟩
      · cases h1
      · cases h1
        exact ⟨e, t, u, rfl, by rw [hg, h2, e3, r2]⟩
  have hob : (h'.push { cls := .type "list", data := .seq (as.map Value.ref).toArray }).get? h'.objs.size = some (seqObj "list" (as.map Value.ref).toArray 0) := Heap.get?_push_size _ rfl
  have ne0 : ∀ b o, h'.get? b = some o → b ≠ h'.objs.size := fun b o e => Nat.ne_of_lt (Heap.lt_size e)
  have kb : ∀ b o, h'.get? b = some o → (h'.push { cls := .type "list", data := .seq (as.map Value.ref).toArray }).get? b = some o := fun b o e => Heap.get?_push_of_some _ e
  generalize hh2 : h'.push { cls := .type "list", data := .seq (as.map Value.ref).toArray } = h2 at hob kb ⊢
  have eR : PySem.W.EachIs (fun v (b : Addr × Str × Int) => v = Value.ref b.1) (as.map Value.ref) (as.zip ks) := by
    refine PySem.W.EachIs.of_zip (by rw [List.length_map, List.length_zip]; omega) fun x hx => ?_
    obtain ⟨j, hj⟩ := List.mem_iff_getElem?.mp hx
    obtain ⟨h1, h2⟩ := List.getElem?_zip_eq_some.mp hj
    obtain ⟨h3, _⟩ := List.getElem?_zip_eq_some.mp h2
    rw [List.getElem?_map, h3] at h1
    exact (Option.some.inj h1).symm
  have mem : ∀ b ∈ as.zip ks, ∃ t u, h'.get? b.1 = some { cls := .type "tuple", data := .seq #[Value.str b.2.1 t, Value.int b.2.2 u] } := by
    intro b hb
    obtain ⟨j, hj⟩ := List.mem_iff_getElem?.mp hb
    obtain ⟨h1, h2⟩ := List.getElem?_zip_eq_some.mp hj
    obtain ⟨e, t, u, h3, h4⟩ := pr j _ h1
    rw [h2] at h3
    cases h3
    exact ⟨t, u, h4⟩
  refine PySem.W.list_sort_data (s := { s with heap := h2, toks := tk }) (bs := as.zip ks) (enc := fun b => entD b.2) (R := fun v (b : Addr × Str × Int) => v = Value.ref b.1) hob eR ((PySem.W.each_mem eR).mono fun v b hb => ?_) (PySem.W.AllAlike.of fun b b' => rfl) (PySem.W.Sortable.tuples fun b => ⟨_, _, rfl⟩) (by rw [List.length_zip]; omega) (fun b hb => ?_) fun out hl3 eo => ?_
  · obtain ⟨rfl, hb⟩ := hb
    obtain ⟨t, u, hg⟩ := mem b hb
    exact ⟨_, .tuple (kb _ _ hg) rfl rfl (.cons (.str _ _) (.cons (.int _ _) .nil)), fun e => nomatch e⟩
  · show X.A.units + 1 + 1 + 1 < cLine
    omega
  · -- behind the sort
    have kF : ∀ b o, b ≠ h'.objs.size → h2.get? b = some o → (sortedHeap h2 h'.objs.size (as.map Value.ref) out.toArray).get? b = some o := fun b o hb e => (PyProof.Rows.sortedHeap_old hb (Heap.lt_size e)).trans e
    have kS : ∀ b o, s.heap.get? b = some o → (sortedHeap h2 h'.objs.size (as.map Value.ref) out.toArray).get? b = some o := fun b o e => kF b o (ne0 _ _ (hk b o e)) (kb _ _ (hk b o e))
    obtain ⟨eF, heF⟩ := PyProof.Rows.sortedHeap_at (vs := as.map Value.ref) (out := out.toArray) hob
    have I1 : Inv X pins σ H { s with heap := sortedHeap h2 h'.objs.size (as.map Value.ref) out.toArray, toks := tk } := I.kept (t' := tk) kS
    have hn0 : H h'.objs.size = none := I.hok.fresh (Nat.le_of_lt hlt)
    have eo2 : out = ((as.zip ks).mergeSort (PySem.W.dataLe false fun b => entD b.2)).map fun z => Value.ref z.1 := by
      clear hl3 kF kS eF heF I1
      revert eo
      generalize (as.zip ks).mergeSort (PySem.W.dataLe false fun b => entD b.2) = zs
      intro eo
      induction eo with
      | nil => rfl
      | cons h _ ih => rw [h, ih]; rfl
    obtain ⟨zs, hzs⟩ : ∃ zs, zs = (as.zip ks).mergeSort (PySem.W.dataLe false fun b => entD b.2) := ⟨_, rfl⟩
    rw [← hzs] at eo2
    have pz : zs.Perm (as.zip ks) := by rw [hzs]; exact List.mergeSort_perm _ _
    have snd : zs.map (·.2) = ks.mergeSort (PySem.W.dataLe false entD) := by
      have e1 : PySem.W.EachIs (fun (x : Addr × Str × Int) (y : Str × Int) => x.2 = y) (as.zip ks) ks := by
        refine PySem.W.EachIs.of_zip (by rw [List.length_zip]; omega) fun x hx => ?_
        obtain ⟨j, hj⟩ := List.mem_iff_getElem?.mp hx
        obtain ⟨h1, h2⟩ := List.getElem?_zip_eq_some.mp hj
        obtain ⟨_, h3⟩ := List.getElem?_zip_eq_some.mp h1
        exact Option.some.inj (h3.symm.trans h2)
      have e2 := PySem.W.sort_each (r := PySem.W.dataLe false fun b : Addr × Str × Int => entD b.2) (s := PySem.W.dataLe false entD) e1 fun x hx y hy => by
        have a1 := e1.zip x hx
        have a2 := e1.zip y hy
        rw [PySem.W.dataLe_eq, PySem.W.dataLe_eq]
        show cond false _ _ = cond false _ _
        rw [a1, a2]
      rw [← hzs] at e2
      clear hzs pz eo2
      generalize ks.mergeSort (PySem.W.dataLe false entD) = ws at e2
      induction e2 with
      | nil => rfl
      | cons h _ ih => rw [List.map_cons, ih, h]
    have hlen : (zs.map fun z => V.ref z.1).length ≤ sizeLine := by
      have e := pz.length_eq
      rw [List.length_zip] at e
      rw [List.length_map]
      omega
    have rv : Vals (zs.map fun z => V.ref z.1) out := by
      rw [eo2]
      exact vals_maps (fun z : Addr × Str × Int => V.ref z.1) (fun z => Value.ref z.1) zs fun _ _ => rfl
    have I2 : Inv X pins σ (upd H h'.objs.size (.lst (zs.map fun z => V.ref z.1))) { s with heap := sortedHeap h2 h'.objs.size (as.map Value.ref) out.toArray, toks := tk } :=
      I1.take (h' := sortedHeap h2 h'.objs.size (as.map Value.ref) out.toArray) (t' := tk) (fun b ob _ e => e) (I.fpOk (Nat.le_of_lt hlt) hn0) ⟨hlen, out, eF, rv, heF⟩
    obtain ⟨H2, I3, g, qt⟩ := L2.DX.takeT (P := fun b vs => ∃ (j : Nat) (e : Str × Int), as[j]? = some b ∧ ks[j]? = some e ∧ vs = [.str e.1, .int e.2]) I as _ I2 nd fun b hb => by
      obtain ⟨j, hj⟩ := List.mem_iff_getElem?.mp hb
      obtain ⟨e, t, u, he, hg⟩ := pr j b hj
      have hbl : s.heap.objs.size ≤ b := Nat.le_of_lt (hG.above b hb)
      refine ⟨hbl, ?_, [.str e.1, .int e.2], ⟨j, e, hj, he, rfl⟩, fun H3 => ⟨(by rw [sizeLine_eq]; show 2 ≤ 16777216; omega), [Value.str e.1 t, Value.int e.2 u], .cons ⟨t, rfl⟩ (.cons ⟨u, rfl⟩ .nil), ⟨_, kF _ _ (ne0 _ _ hg) (kb _ _ hg), rfl, 0, rfl⟩⟩⟩
      rw [upd_ne (ne0 _ _ hg)]
      exact I.hok.fresh hbl
    have gr : ∀ b o, H b = some o → H2 b = some o := fun b o e => g b o (by rw [upd_ne (ne_of_none e hn0)]; exact e)
    refine ⟨.ref h'.objs.size, H2, I3, rfl, q H2 h'.objs.size zs gr hn0 (g _ _ upd_same) snd fun z' hz' => ?_⟩
    obtain ⟨i, hi⟩ := List.mem_iff_getElem?.mp (pz.mem_iff.mp hz')
    obtain ⟨i1, i2⟩ := List.getElem?_zip_eq_some.mp hi
    obtain ⟨vs, ⟨j, e, j1, j2, ev⟩, hH⟩ := qt z'.1 (List.mem_of_getElem? i1)
    have eij : i = j := (List.getElem?_inj (List.getElem?_eq_some_iff.mp i1).1 nd).mp (i1.trans j1.symm)
    subst eij
    have ee : e = z'.2 := Option.some.inj (j2.symm.trans i2)
    rw [ev, ee] at hH
    exact hH
/-! ### d.update(e) -/
def rUpdK : V → List V → Hp → VK → Prop := fun x xs H Q => ∃ (d e : Addr) (kvs more : List (Key × V)), x = .ref d ∧ xs = [.ref e] ∧ H d = some (.dK kvs) ∧ H e = some (.dK more) ∧ d ≠ e ∧ kvs.length + more.length ≤ sizeLine ∧ Q .non (upd H d (.dK (mergeK kvs more)))
theorem mt_updK : MtR X "dict.update" rUpdK := by
  intro pins s σ H x xs v us Q I rx rxs h
  obtain ⟨d, e, kvs, more, rfl, rfl, hd, he, ne, hz, q⟩ := h
  cases rx
  obtain rfl := Vals.ref1 rxs
  obtain ⟨z1, hs1, vs1, rel1, dd1⟩ := dk_of I.hok hd
  obtain ⟨z2, hs2, vs2, rel2, dd2⟩ := dk_of I.hok he
  refine call_meetsIn PySem.F.slot_dict_update dd1.typeIs PySem.F.entry_dict_update (PySem.F.args_dict_update_2 _ _) (meets_dict_update (mixKind X.prog X.w) d e ne hs2)
    ⟨vs1, vs2, dd1, dd2, by rw [← rel1.length, ← rel2.length]; exact hz, fun h' dd' _ hsb => ?_⟩
  have hlen : (mergeK kvs more).length ≤ sizeLine := Nat.le_trans (length_mergeK more kvs) (by omega)
  have dd'' := dd'
  obtain ⟨o, es, ep, ho, _⟩ := dd''
  exact ⟨.non, _, d_write (ob := .dK (mergeK kvs more)) (t' := s.toks) I (by rw [hd]; exact True.intro) hsb ⟨o, ho⟩ ⟨hlen, hs1, _, KV.merge rel2 rel1, dd'⟩, rfl, q⟩
end
end Mine

local macro_rules | `(tactic| walk_at "len") => `(tactic| first | assumption | (refine Mine.szOk ?_; first | decide +kernel | ((try simp only [Mine.len_app]); omega)))
local macro_rules | `(tactic| walk_at "sd") => `(tactic| first | assumption | rfl | exact L2.SqL.of (by assumption) | exact L2.SqT.of (by assumption) | exact L2.SqL.of L2.upd_same | exact L2.SqT.of L2.upd_same | exact L2.upd_same | decide | omega)
local macro_rules | `(tactic| walk_at "rd1") => `(tactic| with_reducible first
  | refine Mine.rd_var (by with_unfolding_all rfl) ?_ | refine Mine.rd_c ?_ | refine Mine.rd_op ?_ | refine Mine.rd_seq ?_ | refine Mine.rd_asg ?_ | refine Mine.rd_gname (by (simp only [L2.wipe, List.map, List.set]); first | done | exact rfl) ?_ | refine Mine.rd_wipe (by with_unfolding_all rfl) ?_ | refine Mine.rd_lcT1 ?_ | refine Mine.rd_dcT1 ?_ | refine Mine.rd_dctT1 ?_ | refine Mine.rd_lcET ?_ | refine Mine.rd_forET ?_ | refine Mine.rd_lcZT ?_ | refine Mine.rd_forES ?_ | refine Mine.rd_lcES ?_ | refine Mine.rd_lenSet ?_
  | refine Mine.rd_test ?_ | refine Mine.rd_tB ?_ | refine Mine.rd_bl ?_ | refine Mine.rd_ifS ?_ | refine Mine.rd_ifE ?_ | refine Mine.rd_and ?_ | refine Mine.rd_or ?_ | refine Mine.rd_not ?_
  | refine Mine.rd_andV ?_ | refine Mine.rd_orV ?_ | refine Mine.rd_notV ?_ | refine Mine.rd_cons ?_ | refine Mine.rd_nil ?_ | refine Mine.rd_call ?_ | refine Mine.rd_callK ?_ | refine Mine.rd_callS ?_ | refine Mine.rd_callKS ?_ | refine Mine.rd_raise ?_ | refine Mine.rd_raiseS ?_ | refine Mine.rd_raised ?_ | refine Mine.rd_byS ?_ | refine Mine.rd_tryO ?_ | refine Mine.rd_tryM ?_ | refine Mine.rd_tryA ?_ | refine Mine.rd_sp1x ?_ | refine Mine.rd_sp2x ?_ | refine Mine.rd_sp3x ?_ | refine Mine.rd_sp4x ?_
  | refine Mine.rd_sp1 ?_ | refine Mine.rd_sp2 ?_ | refine Mine.rd_sp3 ?_ | refine Mine.rd_sp4 ?_ | refine Mine.rd_cb ?_ | refine Mine.rd_bm ?_ | refine Mine.rd_bm0 ?_ | refine Mine.rd_m1 ?_ | refine Mine.rd_m0 ?_
  | refine Mine.rd_sl ?_ | refine Mine.rd_noPart ?_ | refine Mine.rd_part ?_ | refine Mine.rd_int ?_ | refine Mine.rd_chain ?_ | refine Mine.rd_un ?_ | refine Mine.rd_yes ?_ | refine Mine.rd_revL ?_ | refine Mine.rd_star ?_ | refine Mine.rd_isB ?_ | refine Mine.rd_notB ?_ | refine Mine.rd_dput ?_ | refine Mine.rd_dnew ?_ | refine Mine.rd_forE ?_ | refine Mine.rd_forZ ?_ | refine Mine.rd_lcE ?_ | refine Mine.rd_lcZ ?_ | refine Mine.rd_forR ?_ | refine Mine.rd_forR2 ?_ | refine Mine.rd_lcR ?_ | refine Mine.rd_lcR2 ?_
  | refine Mine.rd_new (by with_unfolding_all rfl) ?_ | refine Mine.rd_lst ?_ | refine Mine.rd_tup ?_ | refine Mine.rd_next ?_ | refine Mine.rd_brk ?_ | refine Mine.rd_cont ?_ | refine Mine.rd_drop ?_ | refine Mine.rd_ret ?_ | refine Mine.rd_retN ?_
  | refine Mine.rd_par ?_ | refine Mine.rd_par2 (by (simp only [List.set]); first | done | exact rfl) ?_ | refine Mine.rd_gsub ?_ | refine Mine.rd_gcons ?_ | refine Mine.rd_gnil ?_ | refine Mine.rd_aug (by with_unfolding_all rfl) ?_ | refine Mine.rd_ipI ?_
  | refine Mine.rd_addI ?_ | refine Mine.rd_subI ?_ | refine Mine.rd_ltI ?_ | refine Mine.rd_leI ?_ | refine Mine.rd_gtI ?_ | refine Mine.rd_geI ?_ | refine Mine.rd_eqI ?_ | refine Mine.rd_eqS ?_ | refine Mine.rd_neI ?_ | refine Mine.rd_neS ?_
  | refine Mine.rd_ltS ?_ | refine Mine.rd_leS ?_ | refine Mine.rd_gtS ?_ | refine Mine.rd_geS ?_ | refine Mine.rd_eqB ?_ | refine Mine.rd_neB ?_
  | refine Mine.rd_ixLU (by with_unfolding_all rfl) ?_ | refine Mine.rd_ixTU (by with_unfolding_all rfl) ?_ | refine Mine.rd_ixL (L2.SqL.of (by assumption)) (by with_unfolding_all rfl) ?_ | refine Mine.rd_ixT (L2.SqT.of (by assumption)) (by with_unfolding_all rfl) ?_ | refine Mine.rd_setLU (by with_unfolding_all rfl) ?_ | refine Mine.rd_setL (by assumption) (by with_unfolding_all rfl) ?_
  | refine Mine.rd_yT ?_ | refine Mine.rd_nF ?_ | refine Mine.rd_nT ?_ | refine Mine.rd_yF ?_ | refine Mine.rd_isiS ?_ | refine Mine.rd_isiSN ?_ | refine Mine.rd_isiSI ?_ | refine Mine.rd_isiSB ?_ | refine Mine.rd_isiI ?_ | refine Mine.rd_isiIB ?_ | refine Mine.rd_isiIN ?_ | refine Mine.rd_isiIS ?_ | refine Mine.rd_isiB ?_ | refine Mine.rd_isiBI ?_
  | refine Mine.rd_mulS (by first | decide +kernel | omega) (by first | decide | omega) (by first | decide | omega) ?_ | refine Mine.rd_slS (by walk_at "len") ?_ | refine Mine.rd_addS (by walk_at "len") ?_ | refine Mine.rd_lenS (by walk_at "len") ?_
  | refine Mine.rd_inS ?_ | refine Mine.rd_notInS ?_ | refine Mine.rd_is ?_ | refine Mine.rd_isNot ?_ | refine Mine.rd_intI ?_ | refine Mine.rd_intB ?_ | refine Mine.rd_max ?_ | refine Mine.rd_min ?_ | refine Mine.rd_tyS ?_ | refine Mine.rd_isS ?_)
local macro_rules | `(tactic| walk_at "rd") => `(tactic| repeat walk_at "rd1")

namespace Mine
open PySem PySem.Spec PyProof.Rows L2
open TL (tl)
def top (i : Nat) : Stmt := PySem.Challenge.pw_wireshell_k27_names_in_rooms_that_fit.main.body.getD i (.Pass ⟨0, 0, 0, 0⟩)
abbrev s_items_of : Stmt := top 12
abbrev s_set_at : Stmt := top 13
abbrev s_tokens_of : Stmt := top 14
abbrev s_is_a_pattern : Stmt := top 15
abbrev s_token_fits : Stmt := top 16
abbrev s_with_skips : Stmt := top 17
abbrev s_is_fitting : Stmt := top 18
abbrev s_is_whole : Stmt := top 31
abbrev s_is_plain : Stmt := top 32
abbrev s_is_text : Stmt := top 33
abbrev s_is_entry_name : Stmt := top 34
abbrev s_is_a_path : Stmt := top 35
abbrev s_are_entries : Stmt := top 36
abbrev s_is_node : Stmt := top 37
abbrev s_hangs_together : Stmt := top 38
abbrev s_is_a_store : Stmt := top 39
abbrev s_is_room : Stmt := top 40
abbrev s_need_store : Stmt := top 41
abbrev s_need_room : Stmt := top 42
abbrev s_entry_names : Stmt := top 43
abbrev s_need_pattern : Stmt := top 45
abbrev s_matches : Stmt := top 46
abbrev s_law_deck : Stmt := top 48
abbrev s_law_draw : Stmt := top 49
abbrev s_law_one_of : Stmt := top 50
abbrev s_law_mixed : Stmt := top 51
abbrev s_law_name : Stmt := top 52
abbrev s_law_path : Stmt := top 53
abbrev s_law_text : Stmt := top 54
abbrev s_law_places : Stmt := top 55
abbrev s_law_store : Stmt := top 56
abbrev s_law_rooms : Stmt := top 57
abbrev s_law_pattern : Stmt := top 58
abbrev s_law_tokens : Stmt := top 59
abbrev s_law_one_fits : Stmt := top 60
abbrev s_law_fits : Stmt := top 61
abbrev s_law_word : Stmt := top 62
abbrev s_law_right : Stmt := top 63
abbrev s_law : Stmt := top 64
theorem sc_items_of : FnScope ["body", "found", "at", "low", "high"] ["body"] (defScope s_items_of) := ⟨rfl, rfl, rfl, by decide +kernel, rfl, by decide +kernel, by decide +kernel⟩
theorem sc_set_at : FnScope ["pattern", "at", "end", "is_none_of", "items"] ["pattern", "at"] (defScope s_set_at) := ⟨rfl, rfl, rfl, by decide +kernel, rfl, by decide +kernel, by decide +kernel⟩
theorem sc_tokens_of : FnScope ["pattern", "found", "at", "sign", "told"] ["pattern"] (defScope s_tokens_of) := ⟨rfl, rfl, rfl, by decide +kernel, rfl, by decide +kernel, by decide +kernel⟩
theorem sc_is_a_pattern : FnScope ["value"] ["value"] (defScope s_is_a_pattern) := ⟨rfl, rfl, rfl, by decide +kernel, rfl, by decide +kernel, by decide +kernel⟩
theorem sc_token_fits : FnScope ["token", "sign", "low", "high"] ["token", "sign"] (defScope s_token_fits) := ⟨rfl, rfl, rfl, by decide +kernel, rfl, by decide +kernel, by decide +kernel⟩
theorem sc_with_skips : FnScope ["tokens", "places", "found", "place", "at"] ["tokens", "places"] (defScope s_with_skips) := ⟨rfl, rfl, rfl, by decide +kernel, rfl, by decide +kernel, by decide +kernel⟩
theorem sc_is_fitting : FnScope ["pattern", "name", "tokens", "places", "sign", "following", "place"] ["pattern", "name"] (defScope s_is_fitting) := ⟨rfl, rfl, rfl, by decide +kernel, rfl, by decide +kernel, by decide +kernel⟩
theorem sc_is_whole : FnScope ["value"] ["value"] (defScope s_is_whole) := ⟨rfl, rfl, rfl, by decide +kernel, rfl, by decide +kernel, by decide +kernel⟩
theorem sc_is_plain : FnScope ["text", "sign"] ["text"] (defScope s_is_plain) := ⟨rfl, rfl, rfl, by decide +kernel, rfl, by decide +kernel, by decide +kernel⟩
theorem sc_is_text : FnScope ["value"] ["value"] (defScope s_is_text) := ⟨rfl, rfl, rfl, by decide +kernel, rfl, by decide +kernel, by decide +kernel⟩
theorem sc_is_entry_name : FnScope ["value", "sign"] ["value"] (defScope s_is_entry_name) := ⟨rfl, rfl, rfl, by decide +kernel, rfl, by decide +kernel, by decide +kernel⟩
theorem sc_is_a_path : FnScope ["value", "rest", "word"] ["value"] (defScope s_is_a_path) := ⟨rfl, rfl, rfl, by decide +kernel, rfl, by decide +kernel, by decide +kernel⟩
theorem sc_are_entries : FnScope ["value", "many", "entry", "names", "one", "other"] ["value", "many"] (defScope s_are_entries) := ⟨rfl, rfl, rfl, by decide +kernel, rfl, by decide +kernel, by decide +kernel⟩
theorem sc_is_node : FnScope ["value", "many"] ["value", "many"] (defScope s_is_node) := ⟨rfl, rfl, rfl, by decide +kernel, rfl, by decide +kernel, by decide +kernel⟩
theorem sc_hangs_together : FnScope ["store", "found", "waiting", "name", "number", "node"] ["store"] (defScope s_hangs_together) := ⟨rfl, rfl, rfl, by decide +kernel, rfl, by decide +kernel, by decide +kernel⟩
theorem sc_is_a_store : FnScope ["value", "node"] ["value"] (defScope s_is_a_store) := ⟨rfl, rfl, rfl, by decide +kernel, rfl, by decide +kernel, by decide +kernel⟩
theorem sc_is_room : FnScope ["store", "number"] ["store", "number"] (defScope s_is_room) := ⟨rfl, rfl, rfl, by decide +kernel, rfl, by decide +kernel, by decide +kernel⟩
theorem sc_need_store : FnScope ["store"] ["store"] (defScope s_need_store) := ⟨rfl, rfl, rfl, by decide +kernel, rfl, by decide +kernel, by decide +kernel⟩
theorem sc_need_room : FnScope ["store", "here"] ["store", "here"] (defScope s_need_room) := ⟨rfl, rfl, rfl, by decide +kernel, rfl, by decide +kernel, by decide +kernel⟩
theorem sc_entry_names : FnScope ["store", "number", "name", "other"] ["store", "number"] (defScope s_entry_names) := ⟨rfl, rfl, rfl, by decide +kernel, rfl, by decide +kernel, by decide +kernel⟩
theorem sc_need_pattern : FnScope ["pattern"] ["pattern"] (defScope s_need_pattern) := ⟨rfl, rfl, rfl, by decide +kernel, rfl, by decide +kernel, by decide +kernel⟩
theorem sc_matches : FnScope ["store", "here", "pattern", "name"] ["store", "here", "pattern"] (defScope s_matches) := ⟨rfl, rfl, rfl, by decide +kernel, rfl, by decide +kernel, by decide +kernel⟩
theorem sc_law_deck : FnScope ["script", "k", "cell", "mixed", "number"] ["script", "k"] (defScope s_law_deck) := ⟨rfl, rfl, rfl, by decide +kernel, rfl, by decide +kernel, by decide +kernel⟩
theorem sc_law_draw : FnScope ["deck", "many", "found", "mixed"] ["deck", "many"] (defScope s_law_draw) := ⟨rfl, rfl, rfl, by decide +kernel, rfl, by decide +kernel, by decide +kernel⟩
theorem sc_law_one_of : FnScope ["deck", "items"] ["deck", "items"] (defScope s_law_one_of) := ⟨rfl, rfl, rfl, by decide +kernel, rfl, by decide +kernel, by decide +kernel⟩
theorem sc_law_mixed : FnScope ["deck", "items", "left", "found", "turn"] ["deck", "items"] (defScope s_law_mixed) := ⟨rfl, rfl, rfl, by decide +kernel, rfl, by decide +kernel, by decide +kernel⟩
theorem sc_law_name : FnScope ["deck"] ["deck"] (defScope s_law_name) := ⟨rfl, rfl, rfl, by decide +kernel, rfl, by decide +kernel, by decide +kernel⟩
theorem sc_law_path : FnScope ["deck", "most", "words", "turn"] ["deck", "most"] (defScope s_law_path) := ⟨rfl, rfl, rfl, by decide +kernel, rfl, by decide +kernel, by decide +kernel⟩
theorem sc_law_text : FnScope ["deck"] ["deck"] (defScope s_law_text) := ⟨rfl, rfl, rfl, by decide +kernel, rfl, by decide +kernel, by decide +kernel⟩
theorem sc_law_places : FnScope ["deck", "many", "last"] ["deck", "many"] (defScope s_law_places) := ⟨rfl, rfl, rfl, by decide +kernel, rfl, by decide +kernel, by decide +kernel⟩
theorem sc_law_store : FnScope ["deck", "most", "many", "numbers", "nodes", "rooms", "entries", "others", "number", "room", "free", "name", "way", "turn"] ["deck", "most"] (defScope s_law_store) := ⟨rfl, rfl, rfl, by decide +kernel, rfl, by decide +kernel, by decide +kernel⟩
theorem sc_law_rooms : FnScope ["store", "number"] ["store"] (defScope s_law_rooms) := ⟨rfl, rfl, rfl, by decide +kernel, rfl, by decide +kernel, by decide +kernel⟩
theorem sc_law_pattern : FnScope ["deck", "most", "found", "turn"] ["deck", "most"] (defScope s_law_pattern) := ⟨rfl, rfl, rfl, by decide +kernel, rfl, by decide +kernel, by decide +kernel⟩
theorem sc_law_tokens : FnScope ["pattern", "found", "left", "end"] ["pattern"] (defScope s_law_tokens) := ⟨rfl, rfl, rfl, by decide +kernel, rfl, by decide +kernel, by decide +kernel⟩
theorem sc_law_one_fits : FnScope ["token", "sign", "body", "is_other", "held", "high"] ["token", "sign"] (defScope s_law_one_fits) := ⟨rfl, rfl, rfl, by decide +kernel, rfl, by decide +kernel, by decide +kernel⟩
theorem sc_law_fits : FnScope ["pattern", "name", "row", "token", "new", "at"] ["pattern", "name"] (defScope s_law_fits) := ⟨rfl, rfl, rfl, by decide +kernel, rfl, by decide +kernel, by decide +kernel⟩
theorem sc_law_word : FnScope ["store", "here", "pattern"] ["store", "here", "pattern"] (defScope s_law_word) := ⟨rfl, rfl, rfl, by decide +kernel, rfl, by decide +kernel, by decide +kernel⟩
theorem sc_law_right : FnScope ["deck", "store", "turn", "here", "pattern", "due", "found", "bad", "wrong", "words", "name", "number"] ["deck"] (defScope s_law_right) := ⟨rfl, rfl, rfl, by decide +kernel, rfl, by decide +kernel, by decide +kernel⟩
theorem sc_law : FnScope ["script", "k"] ["script"] (defScope s_law) := ⟨rfl, rfl, rfl, by decide +kernel, rfl, by decide +kernel, by decide +kernel⟩
/-- what the top has left -/
structure Txt (P : Program) (K : PySem.W.Frag) (mg : Str → Option Value) : Prop where
  c_MOST_PATTERN : GK mg "MOST_PATTERN" (.int 40)
  c_ANY : GK mg "ANY" (.str "any")
  c_ONE : GK mg "ONE" (.str "one")
  c_SIGN_patterns : GK mg "SIGN_patterns" (.str "sign")
  c_SET : GK mg "SET" (.str "set")
  c_NO_ITEMS : GK mg "NO_ITEMS" (.str "[]!-")
  c_FILE : GK mg "FILE" (.str "file")
  c_ROOM : GK mg "ROOM" (.str "room")
  c_SIGN_storeways : GK mg "SIGN_storeways" (.str "sign")
  c_HERE : GK mg "HERE" (.str ".")
  c_ABOVE : GK mg "ABOVE" (.str "..")
  c_ROOT : GK mg "ROOT" (.str "/")
  c_MOST_NODES : GK mg "MOST_NODES" (.int 60)
  c_MOST_TEXT : GK mg "MOST_TEXT" (.int 400)
  c_MOST_PATH : GK mg "MOST_PATH" (.int 100)
  c_MOST_NAME : GK mg "MOST_NAME" (.int 12)
  c_NAME_SIGNS : GK mg "NAME_SIGNS" (.str "abcdefghijklmnopqrstuvwxyz0123456789.-_")
  d_items_of : DefAt K mg "items_of" ["body"] s_items_of
  d_set_at : DefAt K mg "set_at" ["pattern", "at"] s_set_at
  d_tokens_of : DefAt K mg "tokens_of" ["pattern"] s_tokens_of
  d_is_a_pattern : DefAt K mg "is_a_pattern" ["value"] s_is_a_pattern
  d_token_fits : DefAt K mg "token_fits" ["token", "sign"] s_token_fits
  d_with_skips : DefAt K mg "with_skips" ["tokens", "places"] s_with_skips
  d_is_fitting : DefAt K mg "is_fitting" ["pattern", "name"] s_is_fitting
  d_is_whole : DefAt K mg "is_whole" ["value"] s_is_whole
  d_is_plain : DefAt K mg "is_plain" ["text"] s_is_plain
  d_is_text : DefAt K mg "is_text" ["value"] s_is_text
  d_is_entry_name : DefAt K mg "is_entry_name" ["value"] s_is_entry_name
  d_is_a_path : DefAt K mg "is_a_path" ["value"] s_is_a_path
  d_are_entries : DefAt K mg "are_entries" ["value", "many"] s_are_entries
  d_is_node : DefAt K mg "is_node" ["value", "many"] s_is_node
  d_hangs_together : DefAt K mg "hangs_together" ["store"] s_hangs_together
  d_is_a_store : DefAt K mg "is_a_store" ["value"] s_is_a_store
  d_is_room : DefAt K mg "is_room" ["store", "number"] s_is_room
  d_need_store : DefAt K mg "need_store" ["store"] s_need_store
  d_need_room : DefAt K mg "need_room" ["store", "here"] s_need_room
  d_entry_names : DefAt K mg "entry_names" ["store", "number"] s_entry_names
  d_need_pattern : DefAt K mg "need_pattern" ["pattern"] s_need_pattern
  d_matches : DefAt K mg "matches" ["store", "here", "pattern"] s_matches
  d_law_deck : DefAt K mg "_law_deck" ["script", "k"] s_law_deck
  d_law_draw : DefAt K mg "_law_draw" ["deck", "many"] s_law_draw
  d_law_one_of : DefAt K mg "_law_one_of" ["deck", "items"] s_law_one_of
  d_law_mixed : DefAt K mg "_law_mixed" ["deck", "items"] s_law_mixed
  d_law_name : DefAt K mg "_law_name" ["deck"] s_law_name
  d_law_path : DefAt K mg "_law_path" ["deck", "most"] s_law_path
  d_law_text : DefAt K mg "_law_text" ["deck"] s_law_text
  d_law_places : DefAt K mg "_law_places" ["deck", "many"] s_law_places
  d_law_store : DefAt K mg "_law_store" ["deck", "most"] s_law_store
  d_law_rooms : DefAt K mg "_law_rooms" ["store"] s_law_rooms
  d_law_pattern : DefAt K mg "_law_pattern" ["deck", "most"] s_law_pattern
  d_law_tokens : DefAt K mg "_law_tokens" ["pattern"] s_law_tokens
  d_law_one_fits : DefAt K mg "_law_one_fits" ["token", "sign"] s_law_one_fits
  d_law_fits : DefAt K mg "_law_fits" ["pattern", "name"] s_law_fits
  d_law_word : DefAt K mg "_law_word" ["store", "here", "pattern"] s_law_word
  d_law_right : DefAt K mg "_law_right" ["deck"] s_law_right
  d_law : DefAt K mg "law" ["script"] s_law
  b_all : mg "all" = none
  b_any : mg "any" = none
  b_bool : mg "bool" = none
  b_int : mg "int" = none
  b_isinstance : mg "isinstance" = none
  b_len : mg "len" = none
  b_list : mg "list" = none
  b_max : mg "max" = none
  b_min : mg "min" = none
  b_range : mg "range" = none
  b_sorted : mg "sorted" = none
  b_str : mg "str" = none
  b_tuple : mg "tuple" = none
  b_zip : mg "zip" = none
  e_InvalidStore : ∃ C, ExcF K mg "InvalidStore" C
  e_InvalidRoom : ∃ C, ExcF K mg "InvalidRoom" C
  e_InvalidPattern : ∃ C, ExcF K mg "InvalidPattern" C
  m_InvalidStore_InvalidStore : ∀ C D, mg "InvalidStore" = some (.ref C) → mg "InvalidStore" = some (.ref D) → PySem.W.subIn K (.ref C) (.ref D) = some true
  m_InvalidStore_InvalidRoom : ∀ C D, mg "InvalidStore" = some (.ref C) → mg "InvalidRoom" = some (.ref D) → PySem.W.subIn K (.ref C) (.ref D) = some false
  m_InvalidStore_InvalidPattern : ∀ C D, mg "InvalidStore" = some (.ref C) → mg "InvalidPattern" = some (.ref D) → PySem.W.subIn K (.ref C) (.ref D) = some false
  m_InvalidRoom_InvalidStore : ∀ C D, mg "InvalidRoom" = some (.ref C) → mg "InvalidStore" = some (.ref D) → PySem.W.subIn K (.ref C) (.ref D) = some false
  m_InvalidRoom_InvalidRoom : ∀ C D, mg "InvalidRoom" = some (.ref C) → mg "InvalidRoom" = some (.ref D) → PySem.W.subIn K (.ref C) (.ref D) = some true
  m_InvalidRoom_InvalidPattern : ∀ C D, mg "InvalidRoom" = some (.ref C) → mg "InvalidPattern" = some (.ref D) → PySem.W.subIn K (.ref C) (.ref D) = some false
  m_InvalidPattern_InvalidStore : ∀ C D, mg "InvalidPattern" = some (.ref C) → mg "InvalidStore" = some (.ref D) → PySem.W.subIn K (.ref C) (.ref D) = some false
  m_InvalidPattern_InvalidRoom : ∀ C D, mg "InvalidPattern" = some (.ref C) → mg "InvalidRoom" = some (.ref D) → PySem.W.subIn K (.ref C) (.ref D) = some false
  m_InvalidPattern_InvalidPattern : ∀ C D, mg "InvalidPattern" = some (.ref C) → mg "InvalidPattern" = some (.ref D) → PySem.W.subIn K (.ref C) (.ref D) = some true
section
variable {P : Program} {w : World} {K : PySem.W.Frag} {mg : Str → Option Value} {base : Heap}
/-! ## The deck: [digits left, a number mixed of all, draws made], and draws from it -/
/-- all that is tracked stays, but for d -/
def Kp (d : Addr) (H H' : Hp) : Prop := ∀ a o, a ≠ d → H a = some o → H' a = some o
theorem Kp.refl (d : Addr) (H : Hp) : Kp d H H := fun _ _ _ h => h
theorem Kp.trans {d : Addr} {H H1 H2 : Hp} (a : Kp d H H1) (b : Kp d H1 H2) : Kp d H H2 := fun c o n h => b c o n (a c o n h)
theorem Kp.new {d p : Addr} {H H' : Hp} {o : HO} (a : Kp d H H') (h : H' p = none) : Kp d H (upd H' p o) := fun c u n e => by
  have e1 := a c u n e
  rw [upd_ne (ne_of_none e1 h)]
  exact e1
theorem Kp.seq {K : PySem.W.Frag} {d a : Addr} {H H' : Hp} {xs : List V} (k : Kp d H H') (n : a ≠ d) (h : SqL K H a xs) : SqL K H' a xs := by
  rcases h with (h | ⟨o, h⟩) | h
  · exact .inl (.inl (k _ _ n h))
  · exact .inl (.inr ⟨o, k _ _ n h⟩)
  · exact .inr h
theorem Kp.free {d a : Addr} {H H' : Hp} (k : Kp d H H') (n : a ≠ d) (h : H' a = none) : H a = none := by
  cases q : H a with
  | none => rfl
  | some o => rw [k a o n q] at h; cases h
theorem Kp.put {d p : Addr} {H H' : Hp} {o : HO} (a : Kp d H H') (h : H p = none) : Kp d H (upd H' p o) := fun c u n e => by
  rw [upd_ne (ne_of_none e h)]
  exact a c u n e
theorem Kp.at {d p : Addr} {H H' : Hp} {o : HO} (k : Kp d (upd H p o) H') (n : d ≠ p) : H' p = some o := k p _ n.symm upd_same
/-- a deck from which at most m draws were made -/
def Dk (d : Addr) (m : Nat) (H : Hp) : Prop := ∃ x y c : Int, H d = some (.lst [.int x, .int y, .int c]) ∧ 0 ≤ x ∧ 0 ≤ y ∧ y < 10 ^ 70 ∧ 0 ≤ c ∧ c ≤ m
theorem Dk.mono {d : Addr} {m n : Nat} {H : Hp} (h : Dk d m H) (l : m ≤ n) : Dk d n H := by
  obtain ⟨x, y, c, h1, h2, h3, h4, h5, h6⟩ := h
  exact ⟨x, y, c, h1, h2, h3, h4, h5, by omega⟩
theorem Dk.new {d p : Addr} {m : Nat} {H : Hp} {o : HO} (h : Dk d m H) (n : H p = none) : Dk d m (upd H p o) := by
  obtain ⟨x, y, c, h1, h2⟩ := h
  refine ⟨x, y, c, ?_, h2⟩
  rw [upd_ne (ne_of_none h1 n)]
  exact h1
theorem Dk.put {d p : Addr} {m : Nat} {H : Hp} {o : HO} (h : Dk d m H) (n : d ≠ p) : Dk d m (upd H p o) := by
  obtain ⟨x, y, c, h1, h2⟩ := h
  exact ⟨x, y, c, by rw [upd_ne n]; exact h1, h2⟩
theorem Dk.ne {d p : Addr} {m : Nat} {H : Hp} (h : Dk d m H) (n : H p = none) : d ≠ p := by
  obtain ⟨x, y, c, h1, h2⟩ := h
  exact ne_of_none h1 n
theorem Kp.of {d : Addr} {H H' : Hp} (h : Same H H') : Kp d H H' := fun a o _ e => h a o e
theorem Dk.same {d : Addr} {m : Nat} {H H' : Hp} (h : Dk d m H) (k : Same H H') : Dk d m H' := by
  obtain ⟨x, y, c, h1, h2⟩ := h
  exact ⟨x, y, c, k _ _ h1, h2⟩
theorem Dk.ne' {d p : Addr} {m : Nat} {H H' : Hp} (h : Dk d m H) (k : Kp d H H') (n : H p = none) : p ≠ d := (h.ne n).symm
/-- draws that may be made at all -/
def LIM : Nat := 1000000000
def Φ_law_draw (K : PySem.W.Frag) (vd vm : V) (H : Hp) (Q : VK) : Prop := ∃ (d : Addr) (n : Int) (m : Nat), vd = .ref d ∧ vm = .int n ∧ 0 < n ∧ n < 1073741824 ∧ Dk d m H ∧ m < LIM ∧
  ∀ (v : Int) (H' : Hp), 0 ≤ v → v < n → Dk d (m + 1) H' → Kp d H H' → Q (.int v) H'
theorem use_draw {K : PySem.W.Frag} {d : Addr} {n : Int} {m : Nat} {H : Hp} {Q : VK} (hd : Dk d m H) (h0 : 0 < n) (h1 : n < 1073741824) (hm : m < LIM)
    (q : ∀ (v : Int) (H' : Hp), 0 ≤ v → v < n → Dk d (m + 1) H' → Kp d H H' → Q (.int v) H') : Φ_law_draw K (.ref d) (.int n) H Q := ⟨d, n, m, rfl, rfl, h0, h1, hd, hm, q⟩
theorem divOk {i j : Int} (h0 : 0 < j) (h1 : j < 1073741824) : CDivW i j := wide_div (b := 64) h0 (by omega) (by decide) (by decide)
theorem bits_lt {i : Int} {n : Nat} (h0 : 0 ≤ i) (h1 : i < 2 ^ n) (hn : 0 < n) : Builtin.Int.intBits i ≤ n := by
  unfold Builtin.Int.intBits
  split
  · omega
  · have : i.natAbs < 2 ^ n := by
      have e : ((2 ^ n : Nat) : Int) = 2 ^ n := by norm_cast
      omega
    have := PySem.Flt.log2_lt_of hn this
    omega
def Φ_law_deck (K : PySem.W.Frag) (vs vk : V) (H : Hp) (Q : VK) : Prop := ∃ (a : Addr) (ns : List Int) (k : Int), vs = .ref a ∧ vk = .int k ∧ SqL K H a (ns.map V.int) ∧ ns.length ≤ 63 ∧ 0 ≤ k ∧ k < 64 ∧
  ∀ (d : Addr) (H' : Hp), H d = none → Dk d 0 H' → Same H H' → Q (.ref d) H'
theorem atI_int {ns : List Int} {k : Int} (h0 : 0 ≤ k) (h1 : k < ns.length) : ∃ z, atI (ns.map V.int) k = some (V.int z) := by
  obtain ⟨j, rfl⟩ : ∃ j : Nat, k = (j : Int) := ⟨k.toNat, by omega⟩
  have hj : j < ns.length := by omega
  exact ⟨ns[j], atI_nat (by rw [List.getElem?_map, List.getElem?_eq_getElem hj]; rfl)⟩
/-- a promise: draws at most c, a text of at most L signs -/
def TxtOf (L c : Nat) (vd : V) (H : Hp) (Q : VK) : Prop := ∃ (d : Addr) (m : Nat), vd = .ref d ∧ Dk d m H ∧ m + c ≤ LIM ∧ ∀ (z : Str) (H' : Hp), z.length ≤ L → Dk d (m + c) H' → Kp d H H' → Q (.str z) H'
/-- a promise: draws at most 10, a text of at most two signs more -/
def BentOf (K : PySem.W.Frag) (vd vp : V) (H : Hp) (Q : VK) : Prop := ∃ (d : Addr) (z : Str) (m : Nat), vd = .ref d ∧ vp = .str z ∧ z.length ≤ 500 ∧ Dk d m H ∧ m + 10 ≤ LIM ∧
  ∀ (y : Str) (H' : Hp), y.length ≤ z.length + 2 → Dk d (m + 10) H' → Kp d H H' → Q (.str y) H'

theorem ok_law_draw (T : Txt P K mg) {f : Addr} {fd : FuncData} (F : Fun K "_law_draw" "_law_draw" s_law_draw f fd) : Keeps P w K mg base CX0 1 f fd ["deck", "many"] (sp2 (Φ_law_draw K)) := by
  refine keeps0_of F sc_law_draw (fun vs H Q E h => ?_) (fun cdv A outer s H vs Q E hr h => ?_)
  · obtain ⟨_, _, rfl, _⟩ := h
    rfl
  obtain ⟨v_deck, v_many, rfl, h⟩ := h
  have hu := hr.hu
  refine ⟨_, (pss_cons (ps_if (pt_cmpR oGt (pe_ix (ixX (K := K)) (pv 0) pe_int (fun _ _ => rfl)) pe_int (nomark _)) (pss_cons (ps_set (i := 2) sc_law_draw.nd rfl (by first | exact Or.inl rfl | exact Or.inr rfl) (pe_op oMod (pe_callTy call_intX (by rfl) T.b_int (by decide +kernel) (pa_cons (pe_ix (ixX (K := K)) (pv 0) pe_int (fun _ _ => rfl)) pa_nil)) (pv 1)))
      (pss_cons (ps_asg (pe_op oDiv (pe_ix (ixX (K := K)) (pv 0) pe_int (fun _ _ => rfl)) (pv 1)) (pg_sub (pv 0) pe_int set_list))
      (pss_one (ps_ret (pv 2))))) pss_nil)
      (pss_cons (ps_asg (pe_op (oAdd (K := K)) (pe_ix (ixX (K := K)) (pv 0) pe_int (fun _ _ => rfl)) pe_int) (pg_sub (pv 0) pe_int set_list))
      (pss_cons (ps_set (i := 3) sc_law_draw.nd rfl (by first | exact Or.inl rfl | exact Or.inr rfl) (pe_op oMod (pe_callTy call_intX (by rfl) T.b_int (by decide +kernel) (pa_cons (pe_op (oAdd (K := K)) (pe_op oPow (pe_op (oAdd (K := K)) (pe_ix (ixX (K := K)) (pv 0) pe_int (fun _ _ => rfl)) (pe_op (oMul (K := K)) pe_int (pe_ix (ixX (K := K)) (pv 0) pe_int (fun _ _ => rfl)))) pe_int) (pe_op (oMul (K := K)) pe_int (pe_ix (ixX (K := K)) (pv 0) pe_int (fun _ _ => rfl)))) pa_nil)) (pe_op (oAdd (K := K)) (pe_op oPow pe_int pe_int) pe_int)))
      (pss_cons (ps_set (i := 3) sc_law_draw.nd rfl (by first | exact Or.inl rfl | exact Or.inr rfl) (pe_op oMod (pe_callTy call_intX (by rfl) T.b_int (by decide +kernel) (pa_cons (pe_op (oAdd (K := K)) (pe_op (oAdd (K := K)) (pe_op (oMul (K := K)) (pv 3) (pv 3)) (pe_ix (ixX (K := K)) (pv 0) pe_int (fun _ _ => rfl))) (pe_op (oMul (K := K)) pe_int (pe_ix (ixX (K := K)) (pv 0) pe_int (fun _ _ => rfl)))) pa_nil)) (pe_op (oAdd (K := K)) (pe_op oPow pe_int pe_int) pe_int)))
      (pss_one (ps_ret (pe_op oMod (pe_callTy call_intX (by rfl) T.b_int (by decide +kernel) (pa_cons (pe_op oDiv (pv 3) pe_int) pa_nil)) (pv 1)))))))), ?_⟩
  rw [show start ["deck", "many", "found", "mixed"] [v_deck, v_many] = [some v_deck, some v_many, none, none] from rfl]
  try dsimp only [cxOf, Cx.nox, Cx.wish]
  obtain ⟨d, n, m, rfl, rfl, hn0, hn1, ⟨x, y, c, hd, hx, hy0, hy1, hc0, hc1⟩, hm, q⟩ := h
  walk_at "rd"
  refine rd_ite (fun hp => ?_) (fun hp => ?_)
  · walk_at "rd"
    refine rd_modI hn0 ?_
    walk_at "rd"
    refine rd_divI (divOk hn0 hn1) ?_
    walk_at "rd"
    refine q _ _ (Int.emod_nonneg _ (by omega)) (Int.emod_lt_of_pos _ hn0) ⟨x / n, y, c, upd_same, Int.ediv_nonneg hx (by omega), hy0, hy1, hc0, by omega⟩ fun a o ne e => ?_
    rw [upd_ne ne]
    exact e
  · walk_at "rd"
    refine rd_mulI (IntMulOk.of_left (by decide)) ?_
    walk_at "rd"
    have b0 : y + 7368787 * (c + 1) < 2 ^ 240 := by
      have : m < 1000000000 := hm
      omega
    refine rd_powI ⟨by decide, ?_⟩ ?_
    · have := bits_lt (n := 240) (by omega) b0 (by decide)
      omega
    walk_at "rd"
    refine rd_mulI (IntMulOk.of_left (by decide)) ?_
    walk_at "rd"
    refine rd_powI ⟨by decide, by decide⟩ ?_
    walk_at "rd"
    refine rd_modL (by decide) fun z hz0 hz1 => ?_
    walk_at "rd"
    have hz2 : z < 2 ^ 200 := Int.lt_trans hz1 (by decide)
    refine rd_mulI (CMulW.ok (wide_mul (a := 200) (b := 200) (by omega) (by omega) (by decide) (by decide) (by decide))) ?_
    walk_at "rd"
    refine rd_mulI (IntMulOk.of_left (by decide)) ?_
    walk_at "rd"
    refine rd_powI ⟨by decide, by decide⟩ ?_
    walk_at "rd"
    refine rd_modL (by decide) fun z2 _ _ => ?_
    walk_at "rd"
    refine rd_divI (divOk (by decide) (by decide)) ?_
    walk_at "rd"
    refine rd_modL hn0 fun z3 h30 h31 => ?_
    refine q _ _ h30 h31 ⟨x, y, c + 1, upd_same, hx, hy0, hy1, by omega, by omega⟩ fun a o ne e => ?_
    rw [upd_ne ne]
    exact e
theorem ok_law_deck (T : Txt P K mg) {f : Addr} {fd : FuncData} (F : Fun K "_law_deck" "_law_deck" s_law_deck f fd) : Keeps P w K mg base CX0 1 f fd ["script", "k"] (sp2 (Φ_law_deck K)) := by
  refine keeps0_of F sc_law_deck (fun vs H Q E h => ?_) (fun cdv A outer s H vs Q E hr h => ?_)
  · obtain ⟨_, _, rfl, _⟩ := h
    rfl
  obtain ⟨v_script, v_k, rfl, h⟩ := h
  have hu := hr.hu
  refine ⟨_, (pss_cons (ps_set (i := 2) sc_law_deck.nd rfl (by first | exact Or.inl rfl | exact Or.inr rfl) (pe_op (oAdd (K := K)) (pe_op (oMul (K := K)) pe_int (pv 1)) pe_int))
      (pss_cons (ps_set (i := 3) sc_law_deck.nd rfl (by first | exact Or.inl rfl | exact Or.inr rfl) (pe_op (oAdd (K := K)) pe_int (pv 1)))
      (pss_meet (ps_if (pt_cmpR oLt (pv 1) (pe_callB (call_lenX (K := K)) (by rfl) T.b_len (by decide +kernel) (pa_cons (pv 0) pa_nil)) (nomark _)) (pss_one (ps_set (i := 2) sc_law_deck.nd rfl (by first | exact Or.inl rfl | exact Or.inr rfl) (pe_op oMod (pe_callTy call_intX (by rfl) T.b_int (by decide +kernel) (pa_cons (pe_ix (ixX (K := K)) (pv 0) (pv 1) (fun _ _ => rfl)) pa_nil)) (pe_op (oAdd (K := K)) (pe_op oPow pe_int pe_int) pe_int)))) pss_nil)
      (pss_cons (ps_for PassesOwn.never rfl (pi_any (K := K) (pv 0)) (pg_name (i := 4) sc_law_deck.nd rfl (by first | exact Or.inl rfl | exact Or.inr rfl)) (pss_one (ps_set (i := 3) sc_law_deck.nd rfl (by first | exact Or.inl rfl | exact Or.inr rfl) (pe_op oMod (pe_callTy call_intX (by rfl) T.b_int (by decide +kernel) (pa_cons (pe_op (oAdd (K := K)) (pe_op (oAdd (K := K)) (pe_op (oMul (K := K)) (pv 3) pe_int) (pe_op oMod (pe_callTy call_intX (by rfl) T.b_int (by decide +kernel) (pa_cons (pv 4) pa_nil)) (pe_op (oAdd (K := K)) (pe_op oPow pe_int pe_int) pe_int))) pe_int) pa_nil)) (pe_op (oAdd (K := K)) (pe_op oPow pe_int pe_int) pe_int)))))
      (pss_one (ps_ret (pe_lst (pa_cons (pe_callB (call_maxX rfl) (by rfl) T.b_max (by decide +kernel) (pa_cons pe_int (pa_cons (pe_op oSub (pv 2) (pe_op oPow pe_int pe_int)) pa_nil))) (pa_cons (pe_op (oAdd (K := K)) (pe_op (oMul (K := K)) (pv 3) pe_int) (pe_op oMod (pe_callTy call_intX (by rfl) T.b_int (by decide +kernel) (pa_cons (pv 2) pa_nil)) (pe_op (oAdd (K := K)) (pe_op oPow pe_int pe_int) pe_int))) (pa_cons pe_int pa_nil)))))))))), ?_⟩
  rw [show start ["script", "k", "cell", "mixed", "number"] [v_script, v_k] = [some v_script, some v_k, none, none, none] from rfl]
  try dsimp only [cxOf, Cx.nox, Cx.wish]
  obtain ⟨a, ns, k, rfl, rfl, hS, hl, h0, h1, q⟩ := h
  walk_at "rd"
  refine rd_mulI (IntMulOk.of_left (by decide)) ?_
  walk_at "rd"
  refine rd_meet (fun σ' H' => H = H' ∧ ∃ c : Int, 0 ≤ c ∧ σ' = [some (.ref a), some (.int k), some (.int c), some (.int (7 + k)), none]) ?_ ?_
  · walk_at "rd"
    refine rd_lenL hS ?_
    walk_at "rd"
    refine rd_ite (fun hp => ?_) (fun hp => ?_)
    · have hk : k < ns.length := by simpa using hp
      obtain ⟨z, hz⟩ := atI_int h0 hk
      walk_at "rd"
      refine rd_ixL hS hz ?_
      walk_at "rd"
      refine rd_powI ⟨by decide, by decide⟩ ?_
      walk_at "rd"
      refine rd_modL (by decide) fun c c0 _ => ?_
      walk_at "rd"
      exact ⟨rfl, c, c0, rfl⟩
    · walk_at "rd"
      exact ⟨rfl, 17 * k + 3, by omega, rfl⟩
  rintro _ _ ⟨rfl, c, hc, rfl⟩
  walk_at "rd"
  refine rd_forL ?_
  walk_at "rd"
  refine rd_itL hS (fun _ σ H1 => H = H1 ∧ ∃ (z : Int) (v : Option V), 0 ≤ z ∧ z < 10 ^ 30 ∧ σ = [some (.ref a), some (.int k), some (.int c), some (.int z), v]) ⟨rfl, 7 + k, none, by omega, by omega, rfl⟩ ?_ ?_ ?_
  · rintro i σ H1 _ ⟨rfl, _⟩
    exact hS
  · rintro i x σ H1 hi ⟨rfl, z, v, z0, z1, rfl⟩
    obtain ⟨y, rfl⟩ : ∃ y, x = V.int y := by
      rw [List.getElem?_map] at hi
      cases e : ns[i]? with
      | none => rw [e] at hi; cases hi
      | some y => rw [e] at hi; exact ⟨y, (Option.some.inj hi).symm⟩
    walk_at "rd"
    refine rd_mulI (IntMulOk.of_right (by decide)) ?_
    walk_at "rd"
    refine rd_powI ⟨by decide, by decide⟩ ?_
    walk_at "rd"
    refine rd_modL (by decide) fun u _ _ => ?_
    walk_at "rd"
    refine rd_powI ⟨by decide, by decide⟩ ?_
    walk_at "rd"
    refine rd_modL (by decide) fun t t0 t1 => ?_
    walk_at "rd"
    exact ⟨rfl, t, _, t0, Int.lt_trans t1 (by decide), rfl⟩
  · rintro σ H1 ⟨rfl, z, v, z0, z1, rfl⟩
    walk_at "rd"
    refine rd_powI ⟨by decide, by decide⟩ ?_
    walk_at "rd"
    refine rd_mulI (IntMulOk.of_right (by decide)) ?_
    walk_at "rd"
    refine rd_powI ⟨by decide, by decide⟩ ?_
    walk_at "rd"
    refine rd_modL (by decide) fun t t0 t1 => ?_
    walk_at "rd"
    intro d hd
    walk_at "rd"
    have t2 : t < 10 ^ 22 := Int.lt_trans t1 (by decide)
    refine q d _ hd ⟨_, _, 0, upd_same, by omega, by omega, by omega, by omega, by omega⟩ fun b o e => ?_
    rw [upd_ne (ne_of_none e hd)]
    exact e

/-- the keys of a dict are the numbers that S holds of -/
def KeysAre (H : Hp) (D : Addr) (S : Nat → Prop) : Prop := ∃ (kvs : List (Key × V)) (ks : List Int), H D = some (.dK kvs) ∧ kvs.map (·.1) = ks.map Sum.inl ∧ ks.Nodup ∧ ∀ x : Int, x ∈ ks ↔ ∃ k : Nat, x = (k : Int) ∧ S k
theorem KeysAre.zero {H : Hp} {D : Addr} : KeysAre (upd H D (.dK [])) D fun _ => False := ⟨[], [], upd_same, rfl, List.nodup_nil, fun x => ⟨(fun h => nomatch h), fun ⟨_, _, h⟩ => h.elim⟩⟩
theorem KeysAre.congr {H : Hp} {D : Addr} {S S' : Nat → Prop} (h : KeysAre H D S) (e : ∀ k, S k ↔ S' k) : KeysAre H D S' := by
  obtain ⟨kvs, ks, h1, h2, h3, h4⟩ := h
  exact ⟨kvs, ks, h1, h2, h3, fun x => (h4 x).trans ⟨fun ⟨k, a, b⟩ => ⟨k, a, (e k).mp b⟩, fun ⟨k, a, b⟩ => ⟨k, a, (e k).mpr b⟩⟩⟩
theorem KeysAre.few {H : Hp} {D : Addr} {S : Nat → Prop} {n : Nat} (h : KeysAre H D S) (b : ∀ k, S k → k < n) : ∃ kvs, H D = some (.dK kvs) ∧ kvs.length ≤ n := by
  obtain ⟨kvs, ks, h1, h2, h3, h4⟩ := h
  refine ⟨kvs, h1, ?_⟩
  rw [keys_len h2]
  exact few_ints n h3 fun x hx => by
    obtain ⟨k, rfl, hk⟩ := (h4 x).mp hx
    have := b k hk
    omega
/-- found[at] = True -/
theorem KeysAre.put {H : Hp} {D : Addr} {S : Nat → Prop} {n p : Nat} {v : V} {N : Hp → Prop} (h : KeysAre H D S) (hb : ∀ k, S k → k < n) (hn : n ≤ 1000) (q : ∀ o, KeysAre (upd H D o) D (fun k => S k ∨ k = p) → N (upd H D o)) :
    ∃ a H4, V.ref D = .ref a ∧ DPut H a (.int (p : Int)) v H4 ∧ N H4 := by
  obtain ⟨kvs', h0, hl⟩ := h.few hb
  obtain ⟨kvs, ks, h1, h2, h3, h4⟩ := h
  rw [h0] at h1
  cases h1
  refine rd_putI h0 (szLt (by omega)) ?_
  refine q _ ⟨_, putI ks p, upd_same, keys_put h2, putI_nodup h3, fun x => ?_⟩
  rw [putI_mem, h4]
  constructor
  · rintro (⟨k, rfl, hk⟩ | rfl)
    · exact ⟨k, rfl, .inl hk⟩
    · exact ⟨p, rfl, .inr rfl⟩
  · rintro ⟨k, rfl, hk | rfl⟩
    · exact .inl ⟨k, rfl, hk⟩
    · exact .inr rfl
theorem KeysAre.same {H H' : Hp} {D : Addr} {S : Nat → Prop} (h : KeysAre H D S) (e : Same H H') : KeysAre H' D S := by
  obtain ⟨kvs, ks, h1, h2⟩ := h
  exact ⟨kvs, ks, e _ _ h1, h2⟩
theorem val_some {kvs : List (Key × V)} {k : Key} : (valV kvs k).isSome = true ↔ k ∈ kvs.map (·.1) := by
  induction kvs with
  | nil => simp [valV]
  | cons p r ih =>
    by_cases e : p.1 = k
    · rw [valV_pos e]
      simp [e]
    · have h : valV (p :: r) k = valV r k := by
        unfold valV
        rw [List.find?_cons_of_neg (by simpa using e)]
      rw [h, ih, List.map_cons, List.mem_cons]
      exact ⟨.inr, fun h => h.resolve_left fun h => e h.symm⟩
/-- number in found -/
theorem KeysAre.ask {H : Hp} {D : Addr} {S : Nat → Prop} (h : KeysAre H D S) (k : Nat) : ∃ o, DGet H D (.int (k : Int)) o ∧ (o.isSome = true ↔ S k) := by
  obtain ⟨kvs, ks, h1, h2, h3, h4⟩ := h
  refine ⟨_, DGet.k (k := Sum.inl (k : Int)) h1, ?_⟩
  rw [val_some, h2, List.mem_map]
  constructor
  · rintro ⟨x, hx, e⟩
    cases e
    obtain ⟨j, e, hj⟩ := (h4 _).mp hx
    have : k = j := by omega
    rw [this]
    exact hj
  · exact fun hk => ⟨_, (h4 _).mpr ⟨k, rfl, hk⟩, rfl⟩
theorem KeysAre.list {H : Hp} {D : Addr} {S : Nat → Prop} (h : KeysAre H D S) : ∃ (kvs : List (Key × V)) (ks : List Int), H D = some (.dK kvs) ∧ kvs.length = ks.length ∧ ks.Nodup ∧ ∀ x : Int, x ∈ ks ↔ ∃ k : Nat, x = (k : Int) ∧ S k := by
  obtain ⟨kvs, ks, h1, h2, h3, h4⟩ := h
  exact ⟨kvs, ks, h1, keys_len h2, h3, h4⟩
theorem KeysAre.at {H H' : Hp} {D : Addr} {S : Nat → Prop} (h : KeysAre H D S) (e : ∀ o, H D = some o → H' D = some o) : KeysAre H' D S := by
  obtain ⟨kvs, ks, h1, h2⟩ := h
  exact ⟨kvs, ks, e _ h1, h2⟩

theorem inV2 {z a b : Str} {c : Bool} (h : inV (.str z) [.str a, .str b] = c) : (z == a || z == b) = c := by
  rw [← h]
  show _ = (eqV (.str a) (.str z) || (eqV (.str b) (.str z) || false))
  rw [Bool.or_false]
  show _ = ((a == z) || (b == z))
  rw [Bool.beq_comm (a := a), Bool.beq_comm (a := b)]
def SIGNS : Str := "abcdefghijklmnopqrstuvwxyz0123456789.-_"
def entB (z : Str) : Bool := (decide (1 ≤ z.length) && decide (z.length ≤ 12)) && !(z == "." || z == "..") && (tl z).all fun c => decide (c ∈ tl SIGNS)
def Φ_is_entry_name (K : PySem.W.Frag) (v : V) (H : Hp) (Q : VK) : Prop := ∃ z : Str, v = .str z ∧ z.length ≤ 1000 ∧ ∀ H', Same H H' → Q (.bl (entB z)) H'
theorem ok_is_entry_name (T : Txt P K mg) {f : Addr} {fd : FuncData} (F : Fun K "is_entry_name" "is_entry_name" s_is_entry_name f fd) : Keeps P w K mg base CX0 1 f fd ["value"] (sp1 (Φ_is_entry_name K)) := by
  refine keeps0_of F sc_is_entry_name (fun vs H Q E h => ?_) (fun cdv A outer s H vs Q E hr h => ?_)
  · obtain ⟨_, rfl, _⟩ := h
    rfl
  obtain ⟨v_value, rfl, h⟩ := h
  have hu := hr.hu
  refine ⟨_, (pss_cons (ps_if (PW.pt (pw_or (pt_not (pt_val (pe_callB (isiX (K := K)) (by rfl) T.b_isinstance (by decide +kernel) (pa_cons (pv 0) (pa_cons (pe_bltn (v := .ty "str") (by rfl) T.b_str (by decide +kernel) rfl) pa_nil))))) (pw_or (pt_not (pt_chain oLe oLe pe_int (pe_callB (call_lenX (K := K)) (by rfl) T.b_len (by decide +kernel) (pa_cons (pv 0) pa_nil)) (pe_gk (by rfl) T.c_MOST_NAME))) (pw_or1 (pt_cmpR (oIn (K := K) hr.u65) (pv 0) (pe_tup (pa_cons (pe_gk (by rfl) T.c_HERE) (pa_cons (pe_gk (by rfl) T.c_ABOVE) pa_nil))) (by rfl)))))) (pss_one (ps_ret pe_bl)) pss_nil)
      (pss_one (ps_ret (pe_callB (allX (K := K) rfl) (by rfl) T.b_all (by decide +kernel) (pa_cons (pe_lc (own := [("sign", 1)]) rfl sc_is_entry_name.nd (pi_any (K := K) (pv 0)) (blkOk_by (own := [("sign", 1)]) (N := ["value", "sign"]) (sc := defScope s_is_entry_name) (by decide +kernel)) (fun _ _ _ _ _ => pg_name (i := 1) sc_is_entry_name.nd rfl (by first | exact Or.inl rfl | exact Or.inr rfl)) (fun _ _ _ _ _ => pts_nil) (fun _ _ _ _ _ => (pe_cmpR (oIn (K := K) hr.u65) (pv 1) (pe_gk (by rfl) T.c_NAME_SIGNS) (by rfl)))) pa_nil))))), ?_⟩
  rw [show start ["value", "sign"] [v_value] = [some v_value, none] from rfl]
  try dsimp only [cxOf, Cx.nox, Cx.wish]
  obtain ⟨z, rfl, hz, q⟩ := h
  walk_at "rd"
  refine rd_ite (fun h1' => ?_) (fun h1 => ?_)
  rotate_left
  · walk_at "rd"
    have e : entB z = false := by
      have : ¬ (1 ≤ z.length) := by have := of_decide_eq_false h1; omega
      simp [entB, this]
    exact e ▸ q H (Same.refl H)
  walk_at "rd"
  refine rd_ite (fun h2 => ?_) (fun h2 => ?_)
  · walk_at "rd"
    have e : entB z = false := by
      have : ¬ (z.length ≤ 12) := by
        cases e : decide ((z.length : Int) ≤ 12) with
        | true => rw [e] at h2; cases h2
        | false => have := of_decide_eq_false e; omega
      simp [entB, this]
    exact e ▸ q H (Same.refl H)
  walk_at "rd"
  intro p hp
  refine rd_inT (SqT.of upd_same) rfl rfl ?_
  walk_at "rd"
  refine rd_ite (fun h3 => ?_) (fun h3 => ?_)
  · walk_at "rd"
    have e : entB z = false := by
      have : (z == "." || z == "..") = true := inV2 h3
      simp [entB, this]
    exact e ▸ q _ ((Same.refl H).new hp)
  walk_at "rd"
  refine rd_lcS ?_
  walk_at "rd"
  refine rd_mapS (fun _ => true) (fun x => match x with | .str y => .bl (inS y SIGNS) | _ => .non) (fun _ => rfl) (by omega) (fun _ _ => pt_yes) ?_ ?_
  · intro x hx _
    obtain ⟨c, hc, rfl⟩ := List.mem_map.mp hx
    intro H1 s1 QE q1
    walk_at "rd"
    exact q1 H1 (Same.refl H1)
  · intro D H1 hD s1 h1
    walk_at "rd"
    have e : ((signs z).filter fun _ => true).map (fun x => match x with | .str y => V.bl (inS y SIGNS) | _ => .non) = ((tl z).map fun c => decide (c ∈ tl SIGNS)).map V.bl := by
      rw [List.filter_eq_self.mpr fun _ _ => rfl]
      unfold signs
      rw [List.map_map, List.map_map]
      refine List.map_congr_left fun c _ => ?_
      show V.bl (inS ⟨#[c]⟩ SIGNS) = V.bl (decide (c ∈ tl SIGNS))
      rw [inS_sign]
    rw [e] at h1
    refine rd_all (SqL.of h1) ?_
    have eb : ((tl z).map fun c => decide (c ∈ tl SIGNS)).all id = entB z := by
      rw [List.all_map]
      have h4 : (z == "." || z == "..") = false := inV2 h3
      have h5 : 1 ≤ z.length := by have := of_decide_eq_true h1'; omega
      have h6 : z.length ≤ 12 := by
        cases e : decide ((z.length : Int) ≤ 12) with
        | true => have := of_decide_eq_true e; omega
        | false => rw [e] at h2; cases h2
      unfold entB
      rw [h4, decide_eq_true h5, decide_eq_true h6]
      rfl
    exact eb ▸ q H1 (((Same.refl H).new hp).trans s1)
def restOf (z : Str) : Str := match tl z with
  | c :: _ => if (⟨#[c]⟩ : Str) = "/" then cutS z (some 1) none else z
  | [] => z
def wordB (w : Str) : Bool := (w == "." || w == "..") || entB w
def pathB : V → Bool
  | .str z => (decide (1 ≤ z.length) && decide (z.length ≤ 100)) && (z == "/" || (Txt.split (restOf z) "/").all wordB)
  | _ => false
theorem pathB_str (z : Str) : pathB (.str z) = ((decide (1 ≤ z.length) && decide (z.length ≤ 100)) && (z == "/" || (Txt.split (restOf z) "/").all wordB)) := rfl
/-- a text, or what is none -/
def AnyV (K : PySem.W.Frag) (H : Hp) (v : V) : Prop := (∃ z : Str, v = .str z ∧ z.length ≤ 1000) ∨ (pathB v = false ∧ ∃ t, TyX K H v t ∧ PySem.W.kitOne K t (.type "str") = some false)
theorem tl_slash : tl ("/" : Str) = [47] := by decide +kernel
theorem rest_cons {z : Str} {c : Nat} {r : List Nat} (e : tl z = c :: r) : restOf z = if (⟨#[c]⟩ : Str) = "/" then cutS z (some 1) none else z := by
  unfold restOf
  rw [e]
theorem rest_nil {z : Str} {c : Nat} {r : List Nat} (e : tl z = c :: r) : restOf z = "" ↔ z = "/" := by
  rw [rest_cons e]
  have e1 : tl (⟨#[c]⟩ : Str) = [c] := rfl
  by_cases h : (⟨#[c]⟩ : Str) = "/"
  · rw [if_pos h]
    have hc : [c] = [47] := by rw [← e1, h, tl_slash]
    constructor
    · intro h2
      have h3 : tl (cutS z (some ((1 : Nat) : Int)) none) = [] := by rw [show ((1 : Nat) : Int) = 1 from rfl, h2]; decide +kernel
      rw [tl_drop, e] at h3
      refine str_ext ?_
      rw [tl_slash, e, ← hc]
      have h4 : r = [] := h3
      rw [h4]
    · intro h2
      refine str_ext ?_
      rw [show (1 : Int) = ((1 : Nat) : Int) from rfl, tl_drop, h2, tl_slash]
      decide +kernel
  · rw [if_neg h]
    constructor
    · intro h2
      rw [h2] at e
      have e2 : tl ("" : Str) = [] := by decide +kernel
      rw [e2] at e
      cases e
    · intro h2
      refine absurd ?_ h
      refine str_ext ?_
      rw [e1, tl_slash]
      rw [h2, tl_slash] at e
      injection e with e3 _
      rw [e3]
theorem rest_len (z : Str) : (restOf z).length ≤ z.length := by
  unfold restOf
  split
  · split
    · exact cutS_length _ _ _
    · exact Nat.le_refl _
  · exact Nat.le_refl _
def Φ_is_a_path (K : PySem.W.Frag) (v : V) (H : Hp) (Q : VK) : Prop := AnyV K H v ∧ ∀ H', Same H H' → Q (.bl (pathB v)) H'
theorem ok_is_a_path (T : Txt P K mg) {f : Addr} {fd : FuncData} (F : Fun K "is_a_path" "is_a_path" s_is_a_path f fd) : Keeps P w K mg base CX0 2 f fd ["value"] (sp1 (Φ_is_a_path K)) := by
  have c_is_entry_name := cal (P := P) (w := w) (base := base) T.d_is_entry_name fun F => ok_is_entry_name T F
  refine keeps0_of F sc_is_a_path (fun vs H Q E h => ?_) (fun cdv A outer s H vs Q E hr h => ?_)
  · obtain ⟨_, rfl, _⟩ := h
    rfl
  obtain ⟨v_value, rfl, h⟩ := h
  have hu := hr.hu
  refine ⟨_, (pss_cons (ps_if (PW.pt (pw_or (pt_not (pt_val (pe_callB (isiX (K := K)) (by rfl) T.b_isinstance (by decide +kernel) (pa_cons (pv 0) (pa_cons (pe_bltn (v := .ty "str") (by rfl) T.b_str (by decide +kernel) rfl) pa_nil))))) (pw_or1 (pt_not (pt_chain oLe oLe pe_int (pe_callB (call_lenX (K := K)) (by rfl) T.b_len (by decide +kernel) (pa_cons (pv 0) pa_nil)) (pe_gk (by rfl) T.c_MOST_PATH)))))) (pss_one (ps_ret pe_bl)) pss_nil)
      (pss_cons (ps_set (i := 1) sc_is_a_path.nd rfl (by first | exact Or.inl rfl | exact Or.inr rfl) (pe_ifExp (pt_cmpR (oEq (K := K) hr.u65) (pe_ix (ixX (K := K)) (pv 0) pe_int (fun _ _ => rfl)) (pe_gk (by rfl) T.c_ROOT) (nomark _)) (pe_slice (sX (K := K)) (pv 0) (po_some pe_int) po_none) (pv 0)))
      (pss_cons (ps_if (pt_cmpR (oEq (K := K) hr.u65) (pv 1) pe_str (nomark _)) (pss_one (ps_ret pe_bl)) pss_nil)
      (pss_one (ps_ret (pe_callB (allX (K := K) rfl) (by rfl) T.b_all (by decide +kernel) (pa_cons (pe_lc (own := [("word", 2)]) rfl sc_is_a_path.nd (pi_any (K := K) (pe_split (pv 1) (pe_gk (by rfl) T.c_ROOT))) (blkOk_by (own := [("word", 2)]) (N := ["value", "rest", "word"]) (sc := defScope s_is_a_path) (by decide +kernel)) (fun _ _ _ _ _ => pg_name (i := 2) sc_is_a_path.nd rfl (by first | exact Or.inl rfl | exact Or.inr rfl)) (fun _ _ _ _ _ => pts_nil) (fun _ _ _ _ _ => (pe_or (pe_cmpR (oIn (K := K) hr.u65) (pv 2) (pe_tup (pa_cons (pe_gk (by rfl) T.c_HERE) (pa_cons (pe_gk (by rfl) T.c_ABOVE) pa_nil))) (by rfl)) (pe_one (pe_cal c_is_entry_name (hr.mono (by decide)) (by rfl) pass0 (pa_cons (pv 2) pa_nil)))))) pa_nil))))))), ?_⟩
  rw [show start ["value", "rest", "word"] [v_value] = [some v_value, none, none] from rfl]
  try dsimp only [cxOf, Cx.nox, Cx.wish]
  obtain ⟨⟨z, rfl, hz⟩ | ⟨hn, t, ty, ht⟩, q⟩ := h
  rotate_left
  · walk_at "rd"
    refine rd_isi ty ht ?_
    walk_at "rd"
    exact hn ▸ q H (Same.refl H)
  walk_at "rd"
  refine rd_ite (fun h1 => ?_) (fun h1 => ?_)
  rotate_left
  · walk_at "rd"
    have e : pathB (.str z) = false := by
      have : ¬ (1 ≤ z.length) := by have := of_decide_eq_false h1; omega
      simp [pathB, this]
    exact e ▸ q H (Same.refl H)
  have g1 : 1 ≤ z.length := by have := of_decide_eq_true h1; omega
  walk_at "rd"
  refine rd_ite (fun h2 => ?_) (fun h2 => ?_)
  · walk_at "rd"
    have e : pathB (.str z) = false := by
      have : ¬ (z.length ≤ 100) := by
        cases e : decide ((z.length : Int) ≤ 100) with
        | true => rw [e] at h2; cases h2
        | false => have := of_decide_eq_false e; omega
      simp [pathB, this]
    exact e ▸ q H (Same.refl H)
  have g2 : z.length ≤ 100 := by
    cases e : decide ((z.length : Int) ≤ 100) with
    | true => have := of_decide_eq_true e; omega
    | false => rw [e] at h2; cases h2
  obtain ⟨c, r, ez⟩ : ∃ c r, tl z = c :: r := by
    cases e : tl z with
    | nil => rw [← len_tl, e] at g1; cases g1
    | cons c r => exact ⟨c, r, rfl⟩
  walk_at "rd"
  refine rd_ixS (c := c) (szOk (by omega)) (by rw [show z.cps.toList = c :: r from ez]; exact atI_nat (j := 0) rfl) ?_
  walk_at "rd"
  have key : ∃ y : Str, y = restOf z ∧ (if decide ((⟨#[c]⟩ : Str) = "/") = true then y = cutS z (some 1) none else y = z) := by
    refine ⟨restOf z, rfl, ?_⟩
    rw [rest_cons ez]
    by_cases h : (⟨#[c]⟩ : Str) = "/"
    · rw [if_pos h, decide_eq_true h, if_pos rfl]
    · rw [if_neg h, decide_eq_false h, if_neg (by decide)]
  obtain ⟨y, hy, hk⟩ := key
  have hl : y.length ≤ 100 := by rw [hy]; exact Nat.le_trans (rest_len z) g2
  have hy0 : y = "" ↔ z = "/" := by rw [hy]; exact rest_nil ez
  refine rd_ite (fun hc => ?_) (fun hc => ?_)
  rw [hc, if_pos rfl] at hk
  walk_at "rd"
  rw [← hk]
  rotate_left
  rw [hc, if_neg (by decide)] at hk
  refine rd_var (v := .str y) (by rw [hk]; rfl) ?_
  walk_at "rd"
  all_goals
    refine rd_ite (fun h3 => ?_) (fun h3 => ?_)
    · walk_at "rd"
      have e : pathB (.str z) = true := by
        have : z = "/" := hy0.mp (of_decide_eq_true h3)
        have b : (z == "/") = true := by rw [this]; exact beq_self_eq_true _
        rw [pathB_str, b, decide_eq_true g1, decide_eq_true g2]
        rfl
      exact e ▸ q H (Same.refl H)
    · have hne : (z == "/") = false := by
        refine beq_eq_false_iff_ne.mpr fun h => ?_
        exact of_decide_eq_false h3 (hy0.mpr h)
      have eb : pathB (.str z) = (Txt.split y "/").all wordB := by
        rw [pathB_str, hne, decide_eq_true g1, decide_eq_true g2, ← hy]
        rfl
      obtain ⟨s1, s2⟩ := split_len (z := y) (y := "/") (by rw [tl_slash]; exact List.cons_ne_nil _ _) (by decide +kernel)
      walk_at "rd"
      refine rd_lcL ?_
      walk_at "rd"
      refine rd_split (by decide +kernel) (by omega) fun l hl1 => ?_
      refine rd_mapL (SqL.of upd_same) (fun _ => true) (fun x => match x with | .str w => .bl (wordB w) | _ => .non) (fun _ => rfl) (by rw [List.length_map]; omega) (fun _ _ => pt_yes) ?_ ?_
      · intro x hx _
        obtain ⟨u, hu1, rfl⟩ := List.mem_map.mp hx
        have lu := s1 u hu1
        intro H1 k1 QE q1
        walk_at "rd"
        intro t ht
        refine rd_inT (SqT.of upd_same) rfl rfl ?_
        rw [← inV2 (z := u) (a := ".") (b := "..") rfl]
        walk_at "rd"
        refine rd_ite (fun h4 => ?_) (fun h4 => ?_)
        · have e : wordB u = true := by unfold wordB; rw [h4]; rfl
          exact e ▸ q1 _ ((Same.refl H1).new ht)
        · walk_at "rd"
          refine ⟨u, rfl, by omega, fun H2 k2 => ?_⟩
          have e : entB u = wordB u := by unfold wordB; rw [h4]; rfl
          exact e ▸ q1 _ (((Same.refl H1).new ht).trans k2)
      · intro D H1 hD k1 h5
        walk_at "rd"
        have e : (((Txt.split y "/").map V.str).filter fun _ => true).map (fun x => match x with | .str w => V.bl (wordB w) | _ => .non) = ((Txt.split y "/").map wordB).map V.bl := by
          rw [List.filter_eq_self.mpr fun _ _ => rfl, List.map_map, List.map_map]
          rfl
        rw [e] at h5
        refine rd_all (SqL.of h5) ?_
        have e2 : ((Txt.split y "/").map wordB).all id = pathB (.str z) := by rw [eb, List.all_map]; rfl
        exact e2 ▸ q H1 (((Same.refl H).new hl1).trans k1)

/-! ### stores: nodes, entries -/
inductive Nd where
  | file (t : Str)
  | sign (p : Str)
  | room (es : List (Str × Nat))
abbrev Sto := List (Option Nd)
section
variable {α β : Type} {F G : α → β → Prop}
theorem pd_mono (h : ∀ a b, F a b → G a b) : ∀ {as : List α} {bs : List β}, Paired F as bs → Paired G as bs
  | _, _, .nil => .nil
  | _, _, .cons h1 t => .cons (h _ _ h1) (pd_mono h t)
theorem pd_getL : ∀ {as : List α} {bs : List β} {j : Nat} {x : α}, Paired F as bs → as[j]? = some x → ∃ y, bs[j]? = some y ∧ F x y
  | _, _, j, x, .nil, e => by simp at e
  | _, _, 0, x, .cons h _, e => by
    cases e
    exact ⟨_, rfl, h⟩
  | _, _, j + 1, x, .cons _ t, e => pd_getL (j := j) t e
theorem pd_getR : ∀ {as : List α} {bs : List β} {j : Nat} {y : β}, Paired F as bs → bs[j]? = some y → ∃ x, as[j]? = some x ∧ F x y
  | _, _, j, x, .nil, e => by simp at e
  | _, _, 0, x, .cons h _, e => by
    cases e
    exact ⟨_, rfl, h⟩
  | _, _, j + 1, x, .cons _ t, e => pd_getR (j := j) t e
theorem pd_take : ∀ {as : List α} {bs : List β} (n : Nat), Paired F as bs → Paired F (as.take n) (bs.take n)
  | _, _, n, .nil => by rw [List.take_nil, List.take_nil]; exact .nil
  | _, _, 0, .cons _ _ => .nil
  | _, _, n + 1, .cons h t => .cons h (pd_take n t)
theorem pd_app : ∀ {as cs : List α} {bs ds : List β}, Paired F as bs → Paired F cs ds → Paired F (as ++ cs) (bs ++ ds)
  | _, _, _, _, .nil, h => h
  | _, _, _, _, .cons h t, k => .cons h (pd_app t k)
theorem pd_set : ∀ {as : List α} {bs : List β} {x : α} {y : β} (n : Nat), Paired F as bs → F x y → Paired F (as.set n x) (bs.set n y)
  | _, _, _, _, n, .nil, _ => .nil
  | _, _, _, _, 0, .cons _ t, k => .cons k t
  | _, _, _, _, n + 1, .cons h t, k => .cons h (pd_set n t k)
theorem pd_rep {a : α} {b : β} (h : F a b) : ∀ n, Paired F (List.replicate n a) (List.replicate n b)
  | 0 => .nil
  | n + 1 => .cons h (pd_rep h n)
theorem pd_map {γ : Type} (f : γ → α) (g : γ → β) (h : ∀ c, F (f c) (g c)) : ∀ l : List γ, Paired F (l.map f) (l.map g)
  | [] => .nil
  | c :: l => .cons (h c) (pd_map f g h l)
end
def pairV (H : Hp) (v : V) (e : Str × Nat) : Prop := ∃ p, v = .ref p ∧ Rt H p [.str e.1, .int e.2]
def EsAt (H : Hp) (b : Addr) (es : List (Str × Nat)) : Prop := ∃ ys, Ft H b ys ∧ Paired (pairV H) ys es
def NdAt (H : Hp) (v : V) : Option Nd → Prop
  | none => v = .non
  | some (.file t) => ∃ a, v = .ref a ∧ Rt H a [.str "file", .str t]
  | some (.sign p) => ∃ a, v = .ref a ∧ Rt H a [.str "sign", .str p]
  | some (.room es) => ∃ a b, v = .ref a ∧ Rt H a [.str "room", .ref b] ∧ EsAt H b es
def StAt (H : Hp) (v : V) (s : Sto) : Prop := ∃ a xs, v = .ref a ∧ Rt H a xs ∧ Paired (NdAt H) xs s
section
variable {H H' : Hp}
theorem pairV.up {v : V} {e : Str × Nat} (h : pairV H v e) (k : Ty H H') : pairV H' v e := let ⟨p, e, r⟩ := h; ⟨p, e, r.up k⟩
theorem EsAt.up {b : Addr} {es : List (Str × Nat)} (h : EsAt H b es) (k : Ty H H') : EsAt H' b es := let ⟨ys, f, p⟩ := h; ⟨ys, f.up k, pd_mono (fun _ _ q => q.up k) p⟩
theorem NdAt.up {v : V} {n : Option Nd} (h : NdAt H v n) (k : Ty H H') : NdAt H' v n := by
  match n, h with
  | none, h => exact h
  | some (.file t), ⟨a, e, r⟩ => exact ⟨a, e, r.up k⟩
  | some (.sign p), ⟨a, e, r⟩ => exact ⟨a, e, r.up k⟩
  | some (.room es), ⟨a, b, e, r, q⟩ => exact ⟨a, b, e, r.up k, q.up k⟩
theorem StAt.up {v : V} {s : Sto} (h : StAt H v s) (k : Ty H H') : StAt H' v s := let ⟨a, xs, e, r, p⟩ := h; ⟨a, xs, e, r.up k, pd_mono (fun _ _ q => q.up k) p⟩
end
/-- the first item of a node -/
def wordN : Nd → Str
  | .file _ => "file"
  | .sign _ => "sign"
  | .room _ => "room"
theorem NdAt.head {H : Hp} {v : V} {n : Nd} (h : NdAt H v (some n)) : ∃ a x, v = .ref a ∧ Rt H a [.str (wordN n), x] := by
  match n, h with
  | .file t, ⟨a, e, r⟩ => exact ⟨a, _, e, r⟩
  | .sign p, ⟨a, e, r⟩ => exact ⟨a, _, e, r⟩
  | .room es, ⟨a, b, e, r, q⟩ => exact ⟨a, _, e, r⟩
def isRoom : Option Nd → Bool
  | some (.room _) => true
  | _ => false
theorem wordN_room (n : Nd) : decide (wordN n = "room") = isRoom (some n) := by
  cases n with
  | file t => exact show decide (("file" : Str) = "room") = false by decide +kernel
  | sign t => exact show decide (("sign" : Str) = "room") = false by decide +kernel
  | room es => exact decide_eq_true rfl
theorem NdAt.non {H : Hp} {v : V} {n : Option Nd} (h : NdAt H v n) : decide (v = .non) = n.isNone := by
  match n, h with
  | none, h => exact decide_eq_true h
  | some n, h =>
    obtain ⟨a, x, e, _⟩ := h.head
    rw [e]
    exact decide_eq_false fun q => nomatch q
/-! ### texts of files -/
def plS (y : Str) : Bool := decide (y = "\n") || ((!decide (y.cps.toList < (" " : Str).cps.toList)) && (!decide (("~" : Str).cps.toList < y.cps.toList)) && !decide (y = "%"))
def plainB (z : Str) : Bool := (tl z).all fun c => plS ⟨#[c]⟩
def textB (z : Str) : Bool := decide (z.length ≤ 400) && plainB z
/-! ### what a store is -/
def NdOk (n : Nat) : Nd → Prop
  | .file t => textB t = true
  | .sign p => pathB (.str p) = true
  | .room es => (∀ e ∈ es, entB e.1 = true ∧ e.2 < n) ∧ es.Pairwise fun a b => tl a.1 < tl b.1
/-- the entries of the node at a number -/
def entsAt (s : Sto) (r : Nat) : List (Str × Nat) := match s[r]? with
  | some (some (.room es)) => es
  | _ => []
inductive Reach0 (s : Sto) : Nat → Prop
  | root : Reach0 s 0
  | step {r : Nat} {e : Str × Nat} : Reach0 s r → e ∈ entsAt s r → Reach0 s e.2
structure Wf (s : Sto) : Prop where
  l1 : 1 ≤ s.length
  l2 : s.length ≤ 60
  last : ∃ n, s[s.length - 1]? = some (some n)
  root : ∃ es, s[0]? = some (some (.room es))
  nodes : ∀ n, some n ∈ s → NdOk s.length n
  there : ∀ r e, e ∈ entsAt s r → ∃ n, s[e.2]? = some (some n)
  one : ∀ r r' e e', e ∈ entsAt s r → e' ∈ entsAt s r' → e.2 = e'.2 → (∃ es, s[e.2]? = some (some (.room es))) → e.2 ≠ 0 ∧ r = r' ∧ e = e'
  reach : ∀ k n, s[k]? = some (some n) → Reach0 s k
  few : ∀ r, (entsAt s r).length ≤ 1000
theorem entB_len {z : Str} (h : entB z = true) : 1 ≤ z.length ∧ z.length ≤ 12 := by
  unfold entB at h
  rw [Bool.and_eq_true, Bool.and_eq_true, Bool.and_eq_true] at h
  exact ⟨of_decide_eq_true h.1.1.1, of_decide_eq_true h.1.1.2⟩
theorem pathB_len {z : Str} (h : pathB (.str z) = true) : 1 ≤ z.length ∧ z.length ≤ 100 := by
  rw [pathB_str, Bool.and_eq_true, Bool.and_eq_true] at h
  exact ⟨of_decide_eq_true h.1.1, of_decide_eq_true h.1.2⟩
theorem textB_len {z : Str} (h : textB z = true) : z.length ≤ 400 := by
  unfold textB at h
  rw [Bool.and_eq_true] at h
  exact of_decide_eq_true h.1

/-! ### going through all rooms -/
def roomAt (s : Sto) (r : Nat) : Prop := ∃ es, s[r]? = some (some (.room es))
theorem entsAt_room {s : Sto} {r : Nat} {es : List (Str × Nat)} (h : s[r]? = some (some (.room es))) : entsAt s r = es := by
  unfold entsAt
  rw [h]
/-- found numbers: the root, all entries of some rooms -/
def FoundS (s : Sto) (E : List Nat) (k : Nat) : Prop := k = 0 ∨ ∃ r ∈ E, ∃ e ∈ entsAt s r, e.2 = k
theorem room_lt {s : Sto} {r : Nat} (h : roomAt s r) : r < s.length := by
  obtain ⟨es, h⟩ := h
  exact (List.getElem?_eq_some_iff.mp h).1
theorem found_lt {s : Sto} (wf : Wf s) {E : List Nat} {k : Nat} (h : FoundS s E k) : k < s.length := by
  rcases h with rfl | ⟨r, _, e, he, rfl⟩
  · have := wf.l1; omega
  · obtain ⟨n, hn⟩ := wf.there r e he
    exact (List.getElem?_eq_some_iff.mp hn).1
/-- all rooms that were found are gone through: all nodes are found -/
theorem found_all {s : Sto} (wf : Wf s) {E : List Nat} (h : ∀ k, FoundS s E k → roomAt s k → k ∈ E) {k : Nat} {n : Nd} (hk : s[k]? = some (some n)) : FoundS s E k := by
  have gen : ∀ j, Reach0 s j → FoundS s E j := by
    intro j hj
    induction hj with
    | root => exact .inl rfl
    | @step r e _ he ih =>
      refine .inr ⟨r, h r ih ?_, e, he, rfl⟩
      unfold entsAt at he
      split at he
      · exact ⟨_, by assumption⟩
      · cases he
  exact gen k (wf.reach k n hk)
theorem few_nats : ∀ (n : Nat) {ks : List Nat}, ks.Nodup → (∀ k ∈ ks, k < n) → ks.length ≤ n := fun n ks h b => by
  have := few_ints n (ks := ks.map fun k : Nat => (k : Int)) (h.map _ fun a b e h => e (by omega)) fun x hx => by
    obtain ⟨k, hk, rfl⟩ := List.mem_map.mp hx
    have := b k hk
    omega
  rwa [List.length_map] at this
theorem count_some : ∀ (s : Sto), ((List.range s.length).filter fun k => (s.getD k none).isSome).length = (s.filter Option.isSome).length
  | [] => rfl
  | x :: s => by
    have ih := count_some s
    rw [List.length_cons, List.range_succ_eq_map, List.filter_cons, List.filter_map, List.filter_cons]
    have e : ((fun k => ((x :: s).getD k none).isSome) ∘ Nat.succ) = fun k => (s.getD k none).isSome := rfl
    rw [e]
    show (if x.isSome = true then _ else _ : List Nat).length = _
    cases x.isSome with
    | true => rw [if_pos rfl, if_pos rfl, List.length_cons, List.length_cons, List.length_map, ih]
    | false => rw [if_neg Bool.false_ne_true, if_neg Bool.false_ne_true, List.length_map, ih]
/-- as many were found as there are nodes -/
theorem found_count {s : Sto} (wf : Wf s) {E : List Nat} (h : ∀ k, FoundS s E k → roomAt s k → k ∈ E) {ks : List Int} (nd : ks.Nodup) (mem : ∀ x : Int, x ∈ ks ↔ ∃ k : Nat, x = (k : Int) ∧ FoundS s E k) : ks.length = (s.filter Option.isSome).length := by
  rw [← count_some]
  have e : ks.Perm (((List.range s.length).filter fun k => (s.getD k none).isSome).map fun k : Nat => (k : Int)) := by
    refine (List.perm_ext_iff_of_nodup nd ((List.Nodup.sublist List.filter_sublist List.nodup_range).map _ fun a b e h => e (by omega))).mpr fun x => ?_
    rw [mem, List.mem_map]
    constructor
    · rintro ⟨k, rfl, hk⟩
      refine ⟨k, List.mem_filter.mpr ⟨List.mem_range.mpr (found_lt wf hk), ?_⟩, rfl⟩
      have : ∃ n, s[k]? = some (some n) := by
        rcases hk with rfl | ⟨r, _, e, he, rfl⟩
        · obtain ⟨es, h⟩ := wf.root; exact ⟨_, h⟩
        · exact wf.there r e he
      obtain ⟨n, hn⟩ := this
      rw [List.getD_eq_getElem?_getD, hn]
      rfl
    · rintro ⟨k, hk, rfl⟩
      obtain ⟨h1, h2⟩ := List.mem_filter.mp hk
      rw [List.getD_eq_getElem?_getD] at h2
      have lt := List.mem_range.mp h1
      rw [List.getElem?_eq_getElem lt] at h2
      cases e : s[k] with
      | none => rw [e] at h2; cases h2
      | some n => exact ⟨k, rfl, found_all wf h (n := n) (by rw [List.getElem?_eq_getElem lt, e])⟩
  rw [e.length_eq, List.length_map]

/-! ## The program's stores -/
theorem rd_isiR {K : PySem.W.Frag} {H : Hp} {Q : VK} {p : Addr} {xs : List V} (h : Rt H p xs) (q : Q (.bl true) H) : rIsi K [.ref p, .ty "tuple"] H Q := by
  rcases h with h | ⟨o, h⟩
  · exact rd_isiT h q
  · exact rd_isi (b := true) (.fTuple h) (kit_ty (by decide +kernel)) q
theorem sg_eq (c : Nat) : sg c = ⟨#[c]⟩ := rfl
def Φ_is_whole (K : PySem.W.Frag) (v : V) (H : Hp) (Q : VK) : Prop := (∃ i : Int, v = .int i ∧ Q (.bl true) H) ∨ ((v = .non ∨ ∃ b, v = .bl b) ∧ Q (.bl false) H)
theorem ok_is_whole (T : Txt P K mg) {f : Addr} {fd : FuncData} (F : Fun K "is_whole" "is_whole" s_is_whole f fd) : Keeps P w K mg base CX0 1 f fd ["value"] (sp1 (Φ_is_whole K)) := by
  refine keeps0_of F sc_is_whole (fun vs H Q E h => ?_) (fun cdv A outer s H vs Q E hr h => ?_)
  · obtain ⟨_, rfl, _⟩ := h
    rfl
  obtain ⟨v_value, rfl, h⟩ := h
  have hu := hr.hu
  refine ⟨_, (pss_one (ps_ret (pe_and (pe_callB (isiX (K := K)) (by rfl) T.b_isinstance (by decide +kernel) (pa_cons (pv 0) (pa_cons (pe_bltn (v := .ty "int") (by rfl) T.b_int (by decide +kernel) rfl) pa_nil))) (pe_one (pe_not (pe_callB (isiX (K := K)) (by rfl) T.b_isinstance (by decide +kernel) (pa_cons (pv 0) (pa_cons (pe_bltn (v := .ty "bool") (by rfl) T.b_bool (by decide +kernel) rfl) pa_nil)))))))), ?_⟩
  rw [show start ["value"] [v_value] = [some v_value] from rfl]
  try dsimp only [cxOf, Cx.nox, Cx.wish]
  rcases h with ⟨i, rfl, q⟩ | ⟨rfl | ⟨b, rfl⟩, q⟩
  · walk_at "rd"
    exact q
  · walk_at "rd"
    exact q
  · walk_at "rd"
    exact q
def Φ_is_plain (K : PySem.W.Frag) (v : V) (H : Hp) (Q : VK) : Prop := ∃ z : Str, v = .str z ∧ z.length ≤ 1000 ∧ ∀ H', Same H H' → Q (.bl (plainB z)) H'
theorem ok_is_plain (T : Txt P K mg) {f : Addr} {fd : FuncData} (F : Fun K "is_plain" "is_plain" s_is_plain f fd) : Keeps P w K mg base CX0 1 f fd ["text"] (sp1 (Φ_is_plain K)) := by
  refine keeps0_of F sc_is_plain (fun vs H Q E h => ?_) (fun cdv A outer s H vs Q E hr h => ?_)
  · obtain ⟨_, rfl, _⟩ := h
    rfl
  obtain ⟨v_text, rfl, h⟩ := h
  have hu := hr.hu
  refine ⟨_, (pss_one (ps_ret (pe_callB (allX (K := K) rfl) (by rfl) T.b_all (by decide +kernel) (pa_cons (pe_lc (own := [("sign", 1)]) rfl sc_is_plain.nd (pi_any (K := K) (pv 0)) (blkOk_by (own := [("sign", 1)]) (N := ["text", "sign"]) (sc := defScope s_is_plain) (by decide +kernel)) (fun _ _ _ _ _ => pg_name (i := 1) sc_is_plain.nd rfl (by first | exact Or.inl rfl | exact Or.inr rfl)) (fun _ _ _ _ _ => pts_nil) (fun _ _ _ _ _ => (pe_or (pe_cmpR (oEq (K := K) hr.u65) (pv 1) pe_str (nomark _)) (pe_one (pe_and (pe_chain oLe oLe pe_str (pv 1) pe_str) (pe_one (pe_cmpR (oNe (K := K) hr.u65) (pv 1) pe_str (nomark _)))))))) pa_nil)))), ?_⟩
  rw [show start ["text", "sign"] [v_text] = [some v_text, none] from rfl]
  try dsimp only [cxOf, Cx.nox, Cx.wish]
  obtain ⟨z, rfl, hz, q⟩ := h
  walk_at "rd"
  refine rd_lcS ?_
  walk_at "rd"
  refine rd_mapS (fun _ => true) (fun x => match x with | .str y => .bl (plS y) | _ => .non) (fun _ => rfl) (by omega) (fun _ _ => pt_yes) ?_ ?_
  · intro x hx _
    obtain ⟨c, hc, rfl⟩ := List.mem_map.mp hx
    intro H1 s1 QE q1
    have q1 : QE (.bl (plS ⟨#[c]⟩)) H1 := q1 H1 (Same.refl H1)
    unfold plS at q1
    walk_at "rd"
    cases e1 : decide ((⟨#[c]⟩ : Str) = "\n") with
    | true =>
      rw [e1, Bool.true_or] at q1
      walk_at "rd"
      exact q1
    | false =>
      rw [e1, Bool.false_or] at q1
      walk_at "rd"
      cases e2 : !decide ((⟨#[c]⟩ : Str).cps.toList < (" " : Str).cps.toList) with
      | false =>
        rw [e2, Bool.false_and, Bool.false_and] at q1
        walk_at "rd"
        exact q1
      | true =>
        rw [e2, Bool.true_and] at q1
        walk_at "rd"
        cases e3 : !decide (("~" : Str).cps.toList < (⟨#[c]⟩ : Str).cps.toList) with
        | false =>
          rw [e3, Bool.false_and] at q1
          walk_at "rd"
          exact q1
        | true =>
          rw [e3, Bool.true_and] at q1
          walk_at "rd"
          exact q1
  · intro D H1 hD s1 h1
    walk_at "rd"
    have e : ((signs z).filter fun _ => true).map (fun x => match x with | .str y => V.bl (plS y) | _ => .non) = ((tl z).map fun c => plS ⟨#[c]⟩).map V.bl := by
      rw [List.filter_eq_self.mpr fun _ _ => rfl]
      unfold signs
      rw [List.map_map, List.map_map]
      rfl
    rw [e] at h1
    refine rd_all (SqL.of h1) ?_
    have eb : ((tl z).map fun c => plS ⟨#[c]⟩).all id = plainB z := by
      rw [List.all_map]
      rfl
    exact eb ▸ q H1 s1
def Φ_is_text (K : PySem.W.Frag) (v : V) (H : Hp) (Q : VK) : Prop := ∃ z : Str, v = .str z ∧ z.length ≤ 1000 ∧ ∀ H', Same H H' → Q (.bl (textB z)) H'
theorem ok_is_text (T : Txt P K mg) {f : Addr} {fd : FuncData} (F : Fun K "is_text" "is_text" s_is_text f fd) : Keeps P w K mg base CX0 2 f fd ["value"] (sp1 (Φ_is_text K)) := by
  have c_is_plain := cal (P := P) (w := w) (base := base) T.d_is_plain fun F => ok_is_plain T F
  refine keeps0_of F sc_is_text (fun vs H Q E h => ?_) (fun cdv A outer s H vs Q E hr h => ?_)
  · obtain ⟨_, rfl, _⟩ := h
    rfl
  obtain ⟨v_value, rfl, h⟩ := h
  have hu := hr.hu
  refine ⟨_, (pss_one (ps_ret (pe_and (pe_callB (isiX (K := K)) (by rfl) T.b_isinstance (by decide +kernel) (pa_cons (pv 0) (pa_cons (pe_bltn (v := .ty "str") (by rfl) T.b_str (by decide +kernel) rfl) pa_nil))) (pe_and (pe_cmpR oLe (pe_callB (call_lenX (K := K)) (by rfl) T.b_len (by decide +kernel) (pa_cons (pv 0) pa_nil)) (pe_gk (by rfl) T.c_MOST_TEXT) (nomark _)) (pe_one (pe_cal c_is_plain (hr.mono (by decide)) (by rfl) pass0 (pa_cons (pv 0) pa_nil))))))), ?_⟩
  rw [show start ["value"] [v_value] = [some v_value] from rfl]
  try dsimp only [cxOf, Cx.nox, Cx.wish]
  obtain ⟨z, rfl, hz, q⟩ := h
  walk_at "rd"
  have ed : decide ((z.length : Int) ≤ 400) = decide (z.length ≤ 400) := decide_eq_decide.mpr (by omega)
  rw [ed]
  unfold textB at q
  cases e : decide (z.length ≤ 400) with
  | false =>
    rw [e, Bool.false_and] at q
    walk_at "rd"
    exact q H (Same.refl H)
  | true =>
    rw [e, Bool.true_and] at q
    walk_at "rd"
    exact ⟨z, rfl, hz, q⟩
def NumE (n : Nat) (es : List (Str × Nat)) : Prop := (∀ e ∈ es, entB e.1 = true ∧ e.2 < n) ∧ es.Pairwise fun a b => tl a.1 < tl b.1
def Φ_are_entries (K : PySem.W.Frag) (v vm : V) (H : Hp) (Q : VK) : Prop := ∃ (b : Addr) (es : List (Str × Nat)) (n : Nat), v = .ref b ∧ EsAt H b es ∧ vm = .int n ∧ NumE n es ∧ es.length ≤ 1000 ∧ ∀ H', Same H H' → Q (.bl true) H'
theorem pw_get {α : Type} {R : α → α → Prop} {l : List α} (h : l.Pairwise R) {i j : Nat} {x y : α} (hij : i < j) (hx : l[i]? = some x) (hy : l[j]? = some y) : R x y := by
  obtain ⟨a1, a2⟩ := List.getElem?_eq_some_iff.mp hx
  obtain ⟨b1, b2⟩ := List.getElem?_eq_some_iff.mp hy
  rw [← a2, ← b2]
  exact List.pairwise_iff_getElem.mp h i j a1 b1 hij
theorem ok_are_entries (T : Txt P K mg) {f : Addr} {fd : FuncData} (F : Fun K "are_entries" "are_entries" s_are_entries f fd) : Keeps P w K mg base CX0 2 f fd ["value", "many"] (sp2 (Φ_are_entries K)) := by
  have c_is_entry_name := cal (P := P) (w := w) (base := base) T.d_is_entry_name fun F => ok_is_entry_name T F
  have c_is_whole := cal (P := P) (w := w) (base := base) T.d_is_whole fun F => ok_is_whole T F
  refine keeps0_of F sc_are_entries (fun vs H Q E h => ?_) (fun cdv A outer s H vs Q E hr h => ?_)
  · obtain ⟨_, _, rfl, _⟩ := h
    rfl
  obtain ⟨v_value, v_many, rfl, h⟩ := h
  have hu := hr.hu
  refine ⟨_, (pss_cons (ps_if (pt_not (pt_val (pe_callB (isiX (K := K)) (by rfl) T.b_isinstance (by decide +kernel) (pa_cons (pv 0) (pa_cons (pe_bltn (v := .ty "tuple") (by rfl) T.b_tuple (by decide +kernel) rfl) pa_nil))))) (pss_one (ps_ret pe_bl)) pss_nil)
      (pss_cons (ps_for PassesOwn.never rfl (pi_any (K := K) (pv 0)) (pg_name (i := 2) sc_are_entries.nd rfl (by first | exact Or.inl rfl | exact Or.inr rfl)) (pss_cons (ps_if (PW.pt (pw_or (pt_not (pt_val (pe_callB (isiX (K := K)) (by rfl) T.b_isinstance (by decide +kernel) (pa_cons (pv 2) (pa_cons (pe_bltn (v := .ty "tuple") (by rfl) T.b_tuple (by decide +kernel) rfl) pa_nil))))) (pw_or (pt_cmpR (oNe (K := K) hr.u65) (pe_callB (call_lenX (K := K)) (by rfl) T.b_len (by decide +kernel) (pa_cons (pv 2) pa_nil)) pe_int (nomark _)) (pw_or1 (pt_not (pt_val (pe_cal c_is_entry_name (hr.mono (by decide)) (by rfl) pass0 (pa_cons (pe_ix (ixX (K := K)) (pv 2) pe_int (fun _ _ => rfl)) pa_nil)))))))) (pss_one (ps_ret pe_bl)) pss_nil)
      (pss_one (ps_if (PW.pt (pw_or (pt_not (pt_val (pe_cal c_is_whole (hr.mono (by decide)) (by rfl) pass0 (pa_cons (pe_ix (ixX (K := K)) (pv 2) pe_int (fun _ _ => rfl)) pa_nil)))) (pw_or1 (pt_not (pt_chain oLe oLt pe_int (pe_ix (ixX (K := K)) (pv 2) pe_int (fun _ _ => rfl)) (pv 1)))))) (pss_one (ps_ret pe_bl)) pss_nil))))
      (pss_cons (ps_setLc (i := 3) (own := [("entry", 2)]) rfl sc_are_entries.nd rfl rfl (sw_true rfl rfl rfl (by decide +kernel)) (pi_any (K := K) (pv 0)) (blkOk_by (own := [("entry", 2)]) (N := ["value", "many", "entry", "names", "one", "other"]) (sc := defScope s_are_entries) (by decide +kernel)) (fun _ _ _ _ _ => pg_name (i := 2) sc_are_entries.nd rfl (by first | exact Or.inl rfl | exact Or.inr rfl)) (fun _ _ _ _ _ => pts_nil) (fun _ _ _ _ _ => (pe_ix (ixX (K := K)) (pv 2) pe_int (fun _ _ => rfl))))
      (pss_one (ps_ret (pe_callB (allX (K := K) rfl) (by rfl) T.b_all (by decide +kernel) (pa_cons (pe_lc (own := [("one", 4), ("other", 5)]) rfl sc_are_entries.nd (pi_zipX (K := K) (by rfl) T.b_zip (pa_cons (pv 3) (pa_cons (pe_slice (sX (K := K)) (pv 3) (po_some pe_int) po_none) pa_nil))) (blkOk_by (own := [("one", 4), ("other", 5)]) (N := ["value", "many", "entry", "names", "one", "other"]) (sc := defScope s_are_entries) (by decide +kernel)) (fun _ _ _ _ _ => pg_seqX (K := K) (n := 2) rfl (pgs_cons (pg_name (i := 4) sc_are_entries.nd rfl (by first | exact Or.inl rfl | exact Or.inr rfl)) (pgs_cons (pg_name (i := 5) sc_are_entries.nd rfl (by first | exact Or.inl rfl | exact Or.inr rfl)) pgs_nil))) (fun _ _ _ _ _ => pts_nil) (fun _ _ _ _ _ => (pe_cmpR oLt (pv 4) (pv 5) (nomark _)))) pa_nil))))))), ?_⟩
  rw [show start ["value", "many", "entry", "names", "one", "other"] [v_value, v_many] = [some v_value, some v_many, none, none, none, none] from rfl]
  try dsimp only [cxOf, Cx.nox, Cx.wish]
  obtain ⟨b, es, n, rfl, ⟨ys, hb, ps⟩, rfl, ⟨ok, up⟩, hl, q⟩ := h
  have ly := Paired.length ps
  walk_at "rd"
  refine rd_isiR hb.rt ?_
  walk_at "rd"
  refine rd_forT ?_
  walk_at "rd"
  refine rd_itT (xs := ys) hb.rt.sq (fun i σ H' => Same H H' ∧ ∃ x2 x3 x4 x5, σ = [some (.ref b), some (.int n), x2, x3, x4, x5]) ⟨Same.refl H, _, _, _, _, rfl⟩ ?_ ?_ ?_
  · rintro i σ H' _ ⟨k, _⟩
    exact (hb.up (Ty.of k)).rt.sq
  · rintro i x σ H1 hx ⟨k, x2, x3, x4, x5, rfl⟩
    obtain ⟨e, he, p, rfl, hp⟩ := pd_getL ps hx
    have hp := hp.up (Ty.of k)
    obtain ⟨o1, o2⟩ := ok e (List.mem_of_getElem? he)
    have el := entB_len o1
    walk_at "rd"
    refine rd_isiR hp ?_
    walk_at "rd"
    refine rd_lenT hp.sq ?_
    walk_at "rd"
    refine rd_noI (by rfl) ?_
    walk_at "rd"
    refine rd_ixT hp.sq rfl ?_
    walk_at "rd"
    refine ⟨e.1, rfl, by omega, fun H2 k2 => ?_⟩
    rw [o1]
    have hp2 := hp.up (Ty.of k2)
    walk_at "rd"
    refine rd_ixT hp2.sq rfl ?_
    walk_at "rd"
    refine .inl ⟨_, rfl, ?_⟩
    walk_at "rd"
    refine rd_ixT hp2.sq rfl ?_
    walk_at "rd"
    rw [decide_eq_true (show (0 : Int) ≤ (e.2 : Int) by omega)]
    walk_at "rd"
    rw [decide_eq_true (show (e.2 : Int) < (n : Int) by omega)]
    walk_at "rd"
    exact ⟨k.trans k2, _, _, _, _, rfl⟩
  · rintro σ H1 ⟨k1, x2, x3, x4, x5, rfl⟩
    have hb1 := hb.up (Ty.of k1)
    have ps1 := pd_mono (fun _ _ q => pairV.up q (Ty.of k1)) ps
    walk_at "rd"
    refine rd_lcT ?_
    walk_at "rd"
    refine rd_clT (xs := ys) hb1.rt.sq (fun D i H' => Same H1 H' ∧ H' D = some (.lst ((es.take i).map fun e => V.str e.1))) (fun D hD => ⟨(Same.refl H1).new (o := .lst []) hD, upd_same⟩) (fun D i H' _ _ h => (hb1.up (Ty.of h.1)).rt.sq) (fun D i x H' hD hx hP => ?_) (fun D H' hD hP => ?_)
    · obtain ⟨k2, hL⟩ := hP
      obtain ⟨e, he, p, rfl, hp⟩ := pd_getL ps1 hx
      have hp := hp.up (Ty.of k2)
      walk_at "rd"
      refine rd_ixT hp.sq rfl ?_
      have le : (es.take i).length ≤ 1000 := by rw [List.length_take]; omega
      refine ⟨_, hL, szLt (by rw [List.length_map]; omega), k2.put hD, ?_⟩
      rw [upd_same, List.take_add_one, he, List.map_append]
      rfl
    · obtain ⟨k2, hL⟩ := hP
      rw [ly, List.take_length] at hL
      walk_at "rd"
      refine rd_slL (SqL.of hL) fun l hl2 => ?_
      rw [show cutV (es.map fun e => V.str e.1) (some 1) none = (es.map fun e => V.str e.1).drop 1 from cutV_drop _ 1]
      have k3 := (Same.refl H').new (o := .lst ((es.map fun e => V.str e.1).drop 1)) hl2
      refine rd_clZ (xs := es.map fun e => V.str e.1) (ys := (es.map fun e => V.str e.1).drop 1) (n := min es.length (es.length - 1)) (SqL.of (k3 _ _ hL)) (SqL.of upd_same) (by rw [List.length_drop, List.length_map]) (fun D2 i H2 => Same (upd H' l (.lst ((es.map fun e => V.str e.1).drop 1))) H2 ∧ H2 D2 = some (.lst ((List.replicate i true).map V.bl))) (fun D2 hD2 => ⟨(Same.refl _).new (o := .lst []) hD2, upd_same⟩)
        (fun D2 i H2 _ _ h => ⟨SqL.of (h.1 _ _ (k3 _ _ hL)), SqL.of (h.1 _ _ upd_same)⟩) (fun D2 i x y T H2 hD2 hx hy hP hT => ?_) (fun D2 H2 hD2 hP => ?_)
      · obtain ⟨k4, hL2⟩ := hP
        rw [List.getElem?_map] at hx
        obtain ⟨e, he, rfl⟩ := Option.map_eq_some_iff.mp hx
        rw [List.getElem?_drop, List.getElem?_map] at hy
        obtain ⟨e', he', rfl⟩ := Option.map_eq_some_iff.mp hy
        have lt := pw_get up (show i < 1 + i by omega) he he'
        refine rd_lcT1 ?_
        refine rd_gtup (SqT.of upd_same) rfl ?_
        walk_at "rd"
        rw [decide_eq_true (show e.1.cps.toList < e'.1.cps.toList from lt)]
        have hne : D2 ≠ T := fun e => by rw [e, hT] at hL2; cases hL2
        refine ⟨_, by rw [upd_ne hne]; exact hL2, szLt (by rw [List.length_map, List.length_replicate]; have := (List.getElem?_eq_some_iff.mp he).1; omega), ((k4.new (o := .tup [V.str e.1, V.str e'.1]) hT)).put hD2, ?_⟩
        rw [upd_same, List.replicate_succ', List.map_append]
        rfl
      · obtain ⟨k4, hL2⟩ := hP
        refine rd_all (SqL.of hL2) ?_
        have e : (List.replicate (min es.length (es.length - 1)) true).all id = true := by
          rw [List.all_eq_true]
          intro x hx
          rw [(List.mem_replicate.mp hx).2]
          rfl
        rw [e]
        exact q _ (((k1.trans k2).trans k3).trans k4)
def Φ_is_node (K : PySem.W.Frag) (v vm : V) (H : Hp) (Q : VK) : Prop := ∃ (nd : Nd) (n : Nat), NdAt H v (some nd) ∧ vm = .int n ∧ n ≤ 1000 ∧ NdOk n nd ∧ (∀ es, nd = .room es → es.length ≤ 1000) ∧ ∀ H', Same H H' → Q (.bl true) H'
theorem ok_is_node (T : Txt P K mg) {f : Addr} {fd : FuncData} (F : Fun K "is_node" "is_node" s_is_node f fd) : Keeps P w K mg base CX0 3 f fd ["value", "many"] (sp2 (Φ_is_node K)) := by
  have c_is_text := cal (P := P) (w := w) (base := base) T.d_is_text fun F => ok_is_text T F
  have c_is_a_path := cal (P := P) (w := w) (base := base) T.d_is_a_path fun F => ok_is_a_path T F
  have c_are_entries := cal (P := P) (w := w) (base := base) T.d_are_entries fun F => ok_are_entries T F
  refine keeps0_of F sc_is_node (fun vs H Q E h => ?_) (fun cdv A outer s H vs Q E hr h => ?_)
  · obtain ⟨_, _, rfl, _⟩ := h
    rfl
  obtain ⟨v_value, v_many, rfl, h⟩ := h
  have hu := hr.hu
  refine ⟨_, (pss_cons (ps_if (PW.pt (pw_or (pt_not (pt_val (pe_callB (isiX (K := K)) (by rfl) T.b_isinstance (by decide +kernel) (pa_cons (pv 0) (pa_cons (pe_bltn (v := .ty "tuple") (by rfl) T.b_tuple (by decide +kernel) rfl) pa_nil))))) (pw_or (pt_cmpR (oNe (K := K) hr.u65) (pe_callB (call_lenX (K := K)) (by rfl) T.b_len (by decide +kernel) (pa_cons (pv 0) pa_nil)) pe_int (nomark _)) (pw_or1 (pt_not (pt_val (pe_callB (isiX (K := K)) (by rfl) T.b_isinstance (by decide +kernel) (pa_cons (pe_ix (ixX (K := K)) (pv 0) pe_int (fun _ _ => rfl)) (pa_cons (pe_bltn (v := .ty "str") (by rfl) T.b_str (by decide +kernel) rfl) pa_nil))))))))) (pss_one (ps_ret pe_bl)) pss_nil)
      (pss_cons (ps_if (pt_cmpR (oEq (K := K) hr.u65) (pe_ix (ixX (K := K)) (pv 0) pe_int (fun _ _ => rfl)) (pe_gk (by rfl) T.c_FILE) (nomark _)) (pss_one (ps_ret (pe_cal c_is_text (hr.mono (by decide)) (by rfl) pass0 (pa_cons (pe_ix (ixX (K := K)) (pv 0) pe_int (fun _ _ => rfl)) pa_nil)))) pss_nil)
      (pss_cons (ps_if (pt_cmpR (oEq (K := K) hr.u65) (pe_ix (ixX (K := K)) (pv 0) pe_int (fun _ _ => rfl)) (pe_gk (by rfl) T.c_SIGN_storeways) (nomark _)) (pss_one (ps_ret (pe_cal c_is_a_path (hr.mono (by decide)) (by rfl) pass0 (pa_cons (pe_ix (ixX (K := K)) (pv 0) pe_int (fun _ _ => rfl)) pa_nil)))) pss_nil)
      (pss_one (ps_ret (pe_and (pe_cmpR (oEq (K := K) hr.u65) (pe_ix (ixX (K := K)) (pv 0) pe_int (fun _ _ => rfl)) (pe_gk (by rfl) T.c_ROOM) (nomark _)) (pe_one (pe_cal c_are_entries (hr.mono (by decide)) (by rfl) pass0 (pa_cons (pe_ix (ixX (K := K)) (pv 0) pe_int (fun _ _ => rfl)) (pa_cons (pv 1) pa_nil)))))))))), ?_⟩
  rw [show start ["value", "many"] [v_value, v_many] = [some v_value, some v_many] from rfl]
  try dsimp only [cxOf, Cx.nox, Cx.wish]
  obtain ⟨nd, n, hv, rfl, hn, ok, hes, q⟩ := h
  match nd, hv, ok, hes with
  | .file t, ⟨a, e, r⟩, ok, _ =>
    subst e
    walk_at "rd"
    refine rd_isiR r ?_
    walk_at "rd"
    refine rd_lenT r.sq ?_
    walk_at "rd"
    refine rd_noI (by rfl) ?_
    walk_at "rd"
    refine rd_ixT r.sq rfl ?_
    walk_at "rd"
    refine rd_ixT r.sq rfl ?_
    walk_at "rd"
    refine rd_yesI (decide_eq_true rfl) ?_
    walk_at "rd"
    refine rd_ixT r.sq rfl ?_
    have ok : textB t = true := ok
    have := textB_len ok
    walk_at "rd"
    exact ⟨t, rfl, by omega, fun H1 k1 => ok ▸ q H1 k1⟩
  | .sign p, ⟨a, e, r⟩, ok, _ =>
    subst e
    walk_at "rd"
    refine rd_isiR r ?_
    walk_at "rd"
    refine rd_lenT r.sq ?_
    walk_at "rd"
    refine rd_noI (by rfl) ?_
    walk_at "rd"
    refine rd_ixT r.sq rfl ?_
    walk_at "rd"
    refine rd_ixT r.sq rfl ?_
    walk_at "rd"
    refine rd_noI (by decide +kernel) ?_
    walk_at "rd"
    refine rd_ixT r.sq rfl ?_
    walk_at "rd"
    refine rd_yesI (decide_eq_true rfl) ?_
    walk_at "rd"
    refine rd_ixT r.sq rfl ?_
    have ok : pathB (.str p) = true := ok
    have := pathB_len ok
    walk_at "rd"
    exact ⟨.inl ⟨p, rfl, by omega⟩, fun H1 k1 => ok ▸ q H1 k1⟩
  | .room es, ⟨a, b, e, r, hb⟩, ok, hes =>
    subst e
    walk_at "rd"
    refine rd_isiR r ?_
    walk_at "rd"
    refine rd_lenT r.sq ?_
    walk_at "rd"
    refine rd_noI (by rfl) ?_
    walk_at "rd"
    refine rd_ixT r.sq rfl ?_
    walk_at "rd"
    refine rd_ixT r.sq rfl ?_
    walk_at "rd"
    refine rd_noI (by decide +kernel) ?_
    walk_at "rd"
    refine rd_ixT r.sq rfl ?_
    walk_at "rd"
    refine rd_noI (by decide +kernel) ?_
    walk_at "rd"
    refine rd_ixT r.sq rfl ?_
    walk_at "rd"
    rw [decide_eq_true rfl]
    walk_at "rd"
    refine rd_ixT r.sq rfl ?_
    walk_at "rd"
    exact ⟨b, es, n, rfl, hb, rfl, ok, hes es rfl, q⟩
def Φ_hangs_together (K : PySem.W.Frag) (v : V) (H : Hp) (Q : VK) : Prop := ∃ s, StAt H v s ∧ Wf s ∧ ∀ H', Same H H' → Q (.bl true) H'
theorem rd_pop {H : Hp} {Q : VK} {l : Addr} {xs : List V} {y : V} (h : H l = some (.lst (xs ++ [y]))) (q : Q y (upd H l (.lst xs))) : rPop (.ref l) [] H Q :=
  ⟨l, xs ++ [y], y, rfl, rfl, h, by rw [List.length_append, List.getElem?_append_right (by show xs.length ≤ xs.length + 1 - 1; omega)]; simp, by rw [List.dropLast_concat]; exact q⟩
theorem upd_twice {H : Hp} {p : Addr} {o u : HO} : upd (upd H p o) p u = upd H p u := by
  funext a
  by_cases h : a = p
  · rw [h, upd_same, upd_same]
  · rw [upd_ne h, upd_ne h, upd_ne h]
theorem rd_dispI {σ : St} {H : Hp} {Q : VK} {n : Int} {v : V} (q : ∀ p, H p = none → Q (.ref p) (upd H p (.dK [(Sum.inl n, v)]))) : tDisp [(tC (V.int n), tC v)] σ H Q :=
  fun p hp => ⟨upd_same, [(Sum.inl n, v)], rfl, (by show 1 ≤ 15; omega), by rw [upd_twice]; exact q p hp⟩
theorem nat_lst {l : List Nat} {n : Nat} : (l.map fun n : Nat => V.int (n : Int)) ++ [V.int (n : Int)] = (l ++ [n]).map fun n : Nat => V.int (n : Int) := by rw [List.map_append]; rfl
theorem ok_hangs_together (T : Txt P K mg) {f : Addr} {fd : FuncData} (F : Fun K "hangs_together" "hangs_together" s_hangs_together f fd) : Keeps P w K mg base CX0 1 f fd ["store"] (sp1 (Φ_hangs_together K)) := by
  refine keeps0_of F sc_hangs_together (fun vs H Q E h => ?_) (fun cdv A outer s H vs Q E hr h => ?_)
  · obtain ⟨_, rfl, _⟩ := h
    rfl
  obtain ⟨v_store, rfl, h⟩ := h
  have hu := hr.hu
  refine ⟨_, (pss_cons (ps_par (i := 1) (j := 2) rfl sc_hangs_together.nd rfl rfl (by decide) rfl rfl (pa_cons (pe_disp (pps_cons pe_int pe_bl pps_nil) (by rfl) (by rfl) (fun z => by cases z) (by decide)) (pa_cons (pe_lst (pa_cons pe_int pa_nil)) pa_nil)) (by rfl))
      (pss_cons (ps_while PassesOwn.never (pt_cmpR (oNe (K := K) hr.u65) (pv 2) (pe_lst pa_nil) (nomark _)) (pss_one (ps_for PassesOwn.never rfl (pi_any (K := K) (pe_ix (ixX (K := K)) (pe_ix (ixX (K := K)) (pv 0) (pe_bm0X (K := K) PySem.F.plainAttrs_list PySem.F.slot_list_pop PySem.F.type_list_pop mt_pop (pv 2)) (fun _ _ => rfl)) pe_int (fun _ _ => rfl))) (pg_seqX (K := K) (n := 2) rfl (pgs_cons (pg_name (i := 3) sc_hangs_together.nd rfl (by first | exact Or.inl rfl | exact Or.inr rfl)) (pgs_cons (pg_name (i := 4) sc_hangs_together.nd rfl (by first | exact Or.inl rfl | exact Or.inr rfl)) pgs_nil))) (pss_cons (ps_set (i := 5) sc_hangs_together.nd rfl (by first | exact Or.inl rfl | exact Or.inr rfl) (pe_ix (ixX (K := K)) (pv 0) (pv 4) (fun _ _ => rfl)))
      (pss_cons (ps_if (PW.pt (pw_or (pt_cmpR oIs (pv 5) pe_non (nomark _)) (pw_or1 (PW.pt (pw_and (pt_cmpR (oEq (K := K) hr.u65) (pe_ix (ixX (K := K)) (pv 5) pe_int (fun _ _ => rfl)) (pe_gk (by rfl) T.c_ROOM) (nomark _)) (pw_and1 (pt_cmp (pc_din hu (pv 4) (pv 1))))))))) (pss_one (ps_ret pe_bl)) pss_nil)
      (pss_meet (ps_if (pt_cmpR (oEq (K := K) hr.u65) (pe_ix (ixX (K := K)) (pv 5) pe_int (fun _ _ => rfl)) (pe_gk (by rfl) T.c_ROOM) (nomark _)) (pss_one (ps_expr (pe_bmX (K := K) PySem.F.plainAttrs_list PySem.F.slot_list_append PySem.F.type_list_append mt_append (pv 2) (pa_cons (pv 4) pa_nil)))) pss_nil)
      (pss_one (ps_dput hu (pv 1) (pv 4) pe_bl rfl))))))))
      (pss_one (ps_ret (pe_cmpR (oEq (K := K) hr.u65) (pe_callB call_lenD (by rfl) T.b_len (by decide +kernel) (pa_cons (pv 1) pa_nil)) (pe_callB (call_lenX (K := K)) (by rfl) T.b_len (by decide +kernel) (pa_cons (pe_lc (own := [("node", 5)]) rfl sc_hangs_together.nd (pi_any (K := K) (pv 0)) (blkOk_by (own := [("node", 5)]) (N := ["store", "found", "waiting", "name", "number", "node"]) (sc := defScope s_hangs_together) (by decide +kernel)) (fun _ _ _ _ _ => pg_name (i := 5) sc_hangs_together.nd rfl (by first | exact Or.inl rfl | exact Or.inr rfl)) (fun _ _ _ _ _ => pts_one (pt_cmpR oIsNot (pv 5) pe_non (nomark _))) (fun _ _ _ _ _ => (pv 5))) pa_nil)) (nomark _)))))), ?_⟩
  rw [show start ["store", "found", "waiting", "name", "number", "node"] [v_store] = [some v_store, none, none, none, none, none] from rfl]
  try dsimp only [cxOf, Cx.nox, Cx.wish]
  obtain ⟨s, ⟨a, xs, rfl, ha, ps⟩, wf, q⟩ := h
  have lx := Paired.length ps
  have l60 := wf.l2
  walk_at "rd"
  refine rd_dispI fun D hD => ?_
  have k1 := (Same.refl H).new (o := .dK [(Sum.inl 0, .bl true)]) hD
  have K1 : KeysAre (upd H D (.dK [(Sum.inl 0, .bl true)])) D (FoundS s []) := ⟨_, [0], upd_same, rfl, List.nodup_cons.mpr ⟨List.not_mem_nil, List.nodup_nil⟩, fun x => by
    rw [List.mem_singleton]
    exact ⟨fun h => ⟨0, h, .inl rfl⟩, fun ⟨k, e, h⟩ => by
      rcases h with rfl | ⟨_, h, _⟩
      · exact e
      · cases h⟩⟩
  generalize upd H D (.dK [(Sum.inl 0, .bl true)]) = H1 at k1 K1 ⊢
  walk_at "rd"
  intro p hp
  have hpH : H p = none := Sub.of k1 p hp
  have pD : p ≠ D := fun e => by
    obtain ⟨kvs, _, h, _⟩ := K1
    rw [e, h] at hp
    cases hp
  have k2 := k1.new (o := .lst [.int 0]) hp
  have K2 : KeysAre (upd H1 p (.lst [.int 0])) D (FoundS s []) := K1.at fun o e => by rw [upd_ne pD.symm]; exact e
  have p2 : upd H1 p (.lst [.int 0]) p = some (.lst ([0].map fun n : Nat => V.int (n : Int))) := upd_same
  generalize upd H1 p (.lst [.int 0]) = H2 at k2 K2 p2 ⊢
  walk_at "rd"
  obtain ⟨es0, hroot⟩ := wf.root
  refine rd_while (fun m σ H' => ∃ (E Wt : List Nat) (x3 x4 x5 : Option V), m = s.length - E.length ∧ Same H H' ∧ KeysAre H' D (FoundS s E) ∧ H' p = some (.lst (Wt.map fun n : Nat => V.int (n : Int))) ∧ (Wt ++ E).Nodup ∧ (∀ r ∈ Wt ++ E, roomAt s r ∧ FoundS s E r) ∧ (∀ k, FoundS s E k → roomAt s k → k ∈ Wt ++ E) ∧
    σ = [some (.ref a), some (.ref D), some (.ref p), x3, x4, x5]) s.length ⟨[], [0], _, _, _, rfl, k2, K2, p2, by decide, fun r hr => ?_, fun k hk _ => ?_, rfl⟩ ?_
  · have : r = 0 := by simpa using hr
    subst this
    exact ⟨⟨es0, hroot⟩, .inl rfl⟩
  · rcases hk with rfl | ⟨_, h, _⟩
    · exact List.mem_append_left _ (List.mem_singleton.mpr rfl)
    · cases h
  rintro m σ H3 ⟨E, Wt, x3, x4, x5, rfl, k3, hK, hW, nd, hr, hin, rfl⟩
  walk_at "rd"
  intro e he
  have k4 := (Same.refl H3).new (o := .lst []) he
  have k34 := k3.trans k4
  have hK4 := hK.same k4
  have hW4 := k4 _ _ hW
  have e4 : upd H3 e (.lst []) e = some (.lst []) := upd_same
  generalize upd H3 e (.lst []) = H4 at k4 k34 hK4 hW4 e4 ⊢
  refine rd_neNil (SqL.of hW4) (SqL.of e4) ?_
  walk_at "rd"
  refine rd_ite (fun hc => ?_) (fun hc => ?_)
  · obtain ⟨W', r, rfl⟩ : ∃ W' r, Wt = W' ++ [r] := by
      rcases List.eq_nil_or_concat Wt with rfl | ⟨l, x, rfl⟩
      · cases hc
      · exact ⟨l, x, List.concat_eq_append⟩
    have nd2 : (W' ++ r :: E).Nodup := by rw [List.append_assoc] at nd; exact nd
    obtain ⟨⟨es, hes⟩, hrS⟩ := hr r (List.mem_append_left _ (List.mem_append_right _ (List.mem_singleton.mpr rfl)))
    have hen := entsAt_room hes
    obtain ⟨v, hv, na, nb, rfl, hna, ys, hys, pys⟩ := pd_getR ps hes
    have hl : es.length ≤ 1000 := by have := wf.few r; rw [hen] at this; exact this
    have rE : r ∉ E := fun h => (List.nodup_append.mp nd2).2.1 |> fun n => (List.nodup_cons.mp n).1 h
    have lE : (r :: E).length ≤ s.length := few_nats s.length ((List.nodup_append.mp nd2).2.1) fun k hk => by
      rcases List.mem_cons.mp hk with rfl | hk
      · exact room_lt ⟨es, hes⟩
      · exact room_lt (hr k (List.mem_append_right _ hk)).1
    refine rd_turn ?_
    refine rd_forT ?_
    walk_at "rd"
    refine rd_tyL (SqL.of hW4) ?_
    refine rd_pop (xs := W'.map fun n : Nat => V.int (n : Int)) (y := .int (r : Int)) (by rw [hW4, nat_lst]) ?_
    have k5 := k34.put (o := .lst (W'.map fun n : Nat => V.int (n : Int))) hpH
    have hK5 : KeysAre (upd H4 p (.lst (W'.map fun n : Nat => V.int (n : Int)))) D (FoundS s E) := hK4.at fun o e => by rw [upd_ne pD.symm]; exact e
    have p5 : upd H4 p (.lst (W'.map fun n : Nat => V.int (n : Int))) p = some (.lst (W'.map fun n : Nat => V.int (n : Int))) := upd_same
    generalize upd H4 p (.lst (W'.map fun n : Nat => V.int (n : Int))) = H5 at k5 hK5 p5 ⊢
    refine rd_ixT (ha.up (Ty.of k5)).sq (atI_nat hv) ?_
    walk_at "rd"
    refine rd_ixT (hna.up (Ty.of k5)).sq rfl ?_
    refine rd_itT (xs := ys) (hys.up (Ty.of k5)).rt.sq (fun i σ H' => ∃ (Wt : List Nat) (x3 x4 x5 : Option V), Same H H' ∧ KeysAre H' D (fun k => FoundS s E k ∨ ∃ e ∈ es.take i, e.2 = k) ∧ H' p = some (.lst (Wt.map fun n : Nat => V.int (n : Int))) ∧ (Wt ++ r :: E).Nodup ∧ (∀ k ∈ Wt, roomAt s k ∧ (FoundS s E k ∨ ∃ e ∈ es.take i, e.2 = k)) ∧
      (∀ k, (FoundS s E k ∨ ∃ e ∈ es.take i, e.2 = k) → roomAt s k → k ∈ Wt ++ r :: E) ∧ σ = [some (.ref a), some (.ref D), some (.ref p), x3, x4, x5])
      ⟨W', _, _, _, k5, hK5.congr fun k => ⟨.inl, fun h => h.resolve_right fun ⟨_, h, _⟩ => nomatch h⟩, p5, nd2, fun k hk => ⟨(hr k (List.mem_append_left _ (List.mem_append_left _ hk))).1, .inl (hr k (List.mem_append_left _ (List.mem_append_left _ hk))).2⟩, fun k hk hroom => ?_, rfl⟩ ?_ ?_ ?_
    · have := hin k (hk.resolve_right fun ⟨_, h, _⟩ => nomatch h) hroom
      rwa [List.append_assoc] at this
    · rintro i σ H' _ ⟨_, _, _, _, k, _⟩
      exact (hys.up (Ty.of k)).rt.sq
    · rintro i x σ H6 hx ⟨Wt, y3, y4, y5, k6, hK6, p6, nd6, hr6, hin6, rfl⟩
      obtain ⟨e1, he1, pp, rfl, hpp⟩ := pd_getL pys hx
      have hpp := hpp.up (Ty.of k6)
      have grow : es.take (i + 1) = es.take i ++ [e1] := by rw [List.take_add_one, he1]; rfl
      have mem : e1 ∈ entsAt s r := by rw [hen]; exact List.mem_of_getElem? he1
      obtain ⟨n1, hn1⟩ := wf.there r e1 mem
      obtain ⟨v1, hv1, at1⟩ := pd_getR ps hn1
      obtain ⟨a1, y1, rfl, hh1⟩ := at1.head
      have hh1 := hh1.up (Ty.of k6)
      have S6 : ∀ k, (FoundS s E k ∨ ∃ e ∈ es.take i, e.2 = k) → k < s.length := fun k hk => by
        rcases hk with hk | ⟨e, he, rfl⟩
        · exact found_lt wf hk
        · obtain ⟨n, hn⟩ := wf.there r e (by rw [hen]; exact List.mem_of_mem_take he)
          exact (List.getElem?_eq_some_iff.mp hn).1
      have step : ∀ k, ((FoundS s E k ∨ ∃ e ∈ es.take i, e.2 = k) ∨ k = e1.2) ↔ (FoundS s E k ∨ ∃ e ∈ es.take (i + 1), e.2 = k) := fun k => by
        rw [grow]
        constructor
        · rintro ((h | ⟨e, h, rfl⟩) | rfl)
          · exact .inl h
          · exact .inr ⟨e, List.mem_append_left _ h, rfl⟩
          · exact .inr ⟨e1, List.mem_append_right _ (List.mem_singleton.mpr rfl), rfl⟩
        · rintro (h | ⟨e, h, rfl⟩)
          · exact .inl (.inl h)
          · rcases List.mem_append.mp h with h | h
            · exact .inl (.inr ⟨e, h, rfl⟩)
            · rw [List.mem_singleton.mp h]
              exact .inr rfl
      refine rd_gtup hpp.sq rfl ?_
      walk_at "rd"
      refine rd_ixT (ha.up (Ty.of k6)).sq (atI_nat hv1) ?_
      walk_at "rd"
      refine rd_noI (decide_eq_false fun e => nomatch e) ?_
      walk_at "rd"
      refine rd_ixT hh1.sq rfl ?_
      walk_at "rd"
      rw [wordN_room]
      cases hroom : isRoom (some n1) with
      | true =>
        have room1 : roomAt s e1.2 := by
          match n1, hroom, hn1 with
          | .room es1, _, hn1 => exact ⟨es1, hn1⟩
        have fresh : ¬ (FoundS s E e1.2 ∨ ∃ e ∈ es.take i, e.2 = e1.2) := by
          rintro ((h | ⟨r', hr', e', he', h⟩) | ⟨e', he', h⟩)
          · exact (wf.one r r e1 e1 mem mem rfl room1).1 h
          · have := wf.one r r' e1 e' mem he' h.symm room1
            rw [this.2.1] at rE
            exact rE hr'
          · obtain ⟨j, hj⟩ := List.mem_iff_getElem?.mp he'
            rw [List.getElem?_take] at hj
            split at hj
            · rename_i hji
              have := wf.one r r e1 e' mem (by rw [hen]; exact List.mem_of_getElem? hj) h.symm room1
              have ok := wf.nodes _ (List.mem_of_getElem? hes)
              have lt := pw_get ok.2 hji hj he1
              rw [this.2.2] at lt
              exact List.lt_irrefl _ lt
            · cases hj
        have notin : e1.2 ∉ Wt ++ r :: E := fun h => by
          rcases List.mem_append.mp h with h | h
          · exact fresh (hr6 _ h).2
          · rcases List.mem_cons.mp h with h | h
            · rw [h] at fresh
              exact fresh (.inl hrS)
            · exact fresh (.inl (hr _ (List.mem_append_right _ h)).2)
        walk_at "rd"
        obtain ⟨o, ho, hoS⟩ := hK6.ask e1.2
        refine rd_dIn ?_
        walk_at "rd"
        refine ⟨D, o, rfl, ho, ?_⟩
        have on : o.isSome = false := by
          cases h : o.isSome with
          | false => rfl
          | true => exact absurd (hoS.mp h) fresh
        rw [on]
        walk_at "rd"
        refine rd_meet (fun σ' H' => σ' = [some (.ref a), some (.ref D), some (.ref p), some (.str e1.1), some (.int e1.2), some (.ref a1)] ∧ H' = upd H6 p (.lst ((Wt ++ [e1.2]).map fun n : Nat => V.int (n : Int)))) ?_ ?_
        · walk_at "rd"
          refine rd_ixT hh1.sq rfl ?_
          walk_at "rd"
          rw [wordN_room, hroom]
          walk_at "rd"
          refine rd_tyL (SqL.of p6) ?_
          walk_at "rd"
          have lW : Wt.length ≤ s.length := few_nats s.length (List.nodup_append.mp nd6).1 fun k hk => room_lt (hr6 k hk).1
          refine rd_app p6 (szLt (by rw [List.length_map]; omega)) ?_
          exact ⟨rfl, by rw [nat_lst]⟩
        · rintro σ' H' ⟨rfl, rfl⟩
          have hK7 : KeysAre (upd H6 p (.lst ((Wt ++ [e1.2]).map fun n : Nat => V.int (n : Int)))) D (fun k => FoundS s E k ∨ ∃ e ∈ es.take i, e.2 = k) := hK6.at fun o e => by rw [upd_ne pD.symm]; exact e
          walk_at "rd"
          refine hK7.put S6 (by omega) fun o hK8 => ?_
          refine ⟨Wt ++ [e1.2], _, _, _, (k6.put hpH).put hD, hK8.congr step, by rw [upd_ne pD]; exact upd_same, ?_, ?_, ?_, rfl⟩
          · rw [List.append_assoc]
            refine List.nodup_append.mpr ⟨(List.nodup_append.mp nd6).1, ?_, ?_⟩
            · exact List.nodup_cons.mpr ⟨fun h => notin (List.mem_append_right _ h), (List.nodup_append.mp nd6).2.1⟩
            · intro x hx y hy
              rcases List.mem_cons.mp hy with rfl | hy
              · exact fun h => notin (List.mem_append_left _ (h ▸ hx))
              · exact (List.nodup_append.mp nd6).2.2 x hx y hy
          · intro k hk
            rcases List.mem_append.mp hk with hk | hk
            · exact ⟨(hr6 k hk).1, (step k).mp (.inl (hr6 k hk).2)⟩
            · rw [List.mem_singleton.mp hk]
              exact ⟨room1, (step _).mp (.inr rfl)⟩
          · intro k hk hkr
            rw [List.append_assoc]
            rcases (step k).mpr hk with h | rfl
            · rcases List.mem_append.mp (hin6 k h hkr) with h | h
              · exact List.mem_append_left _ h
              · exact List.mem_append_right _ (List.mem_cons_of_mem _ h)
            · exact List.mem_append_right _ List.mem_cons_self
      | false =>
        walk_at "rd"
        refine rd_meet (fun σ' H' => σ' = [some (.ref a), some (.ref D), some (.ref p), some (.str e1.1), some (.int e1.2), some (.ref a1)] ∧ H' = H6) ?_ ?_
        · walk_at "rd"
          refine rd_ixT hh1.sq rfl ?_
          walk_at "rd"
          rw [wordN_room, hroom]
          walk_at "rd"
          exact ⟨rfl, rfl⟩
        · rintro σ' H' ⟨rfl, rfl⟩
          walk_at "rd"
          refine hK6.put S6 (by omega) fun o hK8 => ?_
          refine ⟨Wt, _, _, _, k6.put hD, hK8.congr step, by rw [upd_ne pD]; exact p6, nd6, fun k hk => ⟨(hr6 k hk).1, (step k).mp (.inl (hr6 k hk).2)⟩, fun k hk hkr => ?_, rfl⟩
          rcases (step k).mpr hk with h | rfl
          · exact hin6 k h hkr
          · obtain ⟨es1, h1⟩ := hkr
            rw [hn1] at h1
            cases h1
            cases hroom
    · rintro σ H6 ⟨Wt, y3, y4, y5, k6, hK6, p6, nd6, hr6, hin6, rfl⟩
      have ly : ys.length = es.length := Paired.length pys
      rw [ly, List.take_length] at hK6 hr6 hin6
      have S7 : ∀ k, (FoundS s E k ∨ ∃ e ∈ es, e.2 = k) ↔ FoundS s (r :: E) k := fun k => by
        constructor
        · rintro ((h | ⟨r', h, e⟩) | ⟨e, h, rfl⟩)
          · exact .inl h
          · exact .inr ⟨r', List.mem_cons_of_mem _ h, e⟩
          · exact .inr ⟨r, List.mem_cons_self, e, by rw [hen]; exact h, rfl⟩
        · rintro (h | ⟨r', h, e, he, rfl⟩)
          · exact .inl (.inl h)
          · rcases List.mem_cons.mp h with rfl | h
            · exact .inr ⟨e, by rw [← hen]; exact he, rfl⟩
            · exact .inl (.inr ⟨r', h, e, he, rfl⟩)
      refine ⟨s.length - (r :: E).length, by rw [List.length_cons] at lE ⊢; omega, r :: E, Wt, _, _, _, rfl, k6, hK6.congr S7, p6, nd6, ?_, fun k hk hkr => hin6 k ((S7 k).mpr hk) hkr, rfl⟩
      intro k hk
      rcases List.mem_append.mp hk with h | h
      · exact ⟨(hr6 k h).1, (S7 k).mp (hr6 k h).2⟩
      · rcases List.mem_cons.mp h with rfl | h
        · exact ⟨⟨es, hes⟩, (S7 _).mp (.inl hrS)⟩
        · have := hr k (List.mem_append_right _ h)
          exact ⟨this.1, (S7 k).mp (.inl this.2)⟩
  · have hWt : Wt = [] := by cases Wt with | nil => rfl | cons x l => cases hc
    subst hWt
    obtain ⟨kvs, ks, hkv, hkl, hknd, hkm⟩ := hK4.list
    have cnt := found_count wf (fun k hk hkr => by simpa using hin k hk hkr) hknd hkm
    have ha4 := ha.up (Ty.of k34)
    walk_at "rd"
    refine ⟨D, kvs, rfl, hkv, ?_⟩
    walk_at "rd"
    refine rd_lcT ?_
    walk_at "rd"
    refine rd_clT (xs := xs) ha4.sq (fun D2 i H' => Same H4 H' ∧ ∃ zs, H' D2 = some (.lst zs) ∧ zs.length = ((s.take i).filter Option.isSome).length) (fun D2 hD2 => ⟨(Same.refl H4).new (o := .lst []) hD2, [], upd_same, rfl⟩) (fun D2 i H' _ _ h => (ha4.up (Ty.of h.1)).sq) (fun D2 i x H' hD2 hx hP => ?_) (fun D2 H' hD2 hP => ?_)
    · obtain ⟨k7, zs, hz, lz⟩ := hP
      obtain ⟨n, hn, at1⟩ := pd_getL ps hx
      have grow : s.take (i + 1) = s.take i ++ [n] := by rw [List.take_add_one, hn]; rfl
      have lf := List.length_filter_le Option.isSome (s.take i)
      rw [List.length_take] at lf
      walk_at "rd"
      rw [at1.non]
      cases n with
      | none =>
        rw [show (none : Option Nd).isNone = true from rfl]
        walk_at "rd"
        exact ⟨k7, zs, hz, by rw [grow, List.filter_append, List.length_append, lz]; rfl⟩
      | some n =>
        rw [show (some n : Option Nd).isNone = false from rfl]
        walk_at "rd"
        refine ⟨zs, hz, szLt (by omega), k7.put hD2, _, upd_same, ?_⟩
        rw [grow, List.filter_append, List.length_append, List.length_append, lz]
        rfl
    · obtain ⟨k7, zs, hz, lz⟩ := hP
      rw [lx, List.take_length] at lz
      walk_at "rd"
      refine rd_lenL (SqL.of hz) ?_
      walk_at "rd"
      rw [hkl, cnt, lz, decide_eq_true rfl]
      exact q _ (k34.trans k7)
theorem atI_end {xs : List V} {v : V} (h : xs[xs.length - 1]? = some v) : atI xs (-1) = some v := by
  rcases List.eq_nil_or_concat xs with rfl | ⟨l, x, rfl⟩
  · cases h
  · rw [List.concat_eq_append] at h ⊢
    rw [List.length_append, List.length_singleton, Nat.add_sub_cancel, List.getElem?_append_right (Nat.le_refl _), Nat.sub_self] at h
    cases h
    exact atI_last _ _
def AnyS (K : PySem.W.Frag) (H : Hp) (v : V) : Prop := (∃ s, StAt H v s ∧ Wf s) ∨ ∃ t, TyX K H v t ∧ PySem.W.kitOne K t (.type "tuple") = some false
def Φ_is_a_store (K : PySem.W.Frag) (v : V) (H : Hp) (Q : VK) : Prop := (∃ s, StAt H v s ∧ Wf s ∧ ∀ H', Same H H' → Q (.bl true) H') ∨ ∃ t, TyX K H v t ∧ PySem.W.kitOne K t (.type "tuple") = some false ∧ Q (.bl false) H
theorem ok_is_a_store (T : Txt P K mg) {f : Addr} {fd : FuncData} (F : Fun K "is_a_store" "is_a_store" s_is_a_store f fd) : Keeps P w K mg base CX0 4 f fd ["value"] (sp1 (Φ_is_a_store K)) := by
  have c_hangs_together := cal (P := P) (w := w) (base := base) T.d_hangs_together fun F => ok_hangs_together T F
  have c_is_node := cal (P := P) (w := w) (base := base) T.d_is_node fun F => ok_is_node T F
  refine keeps0_of F sc_is_a_store (fun vs H Q E h => ?_) (fun cdv A outer s H vs Q E hr h => ?_)
  · obtain ⟨_, rfl, _⟩ := h
    rfl
  obtain ⟨v_value, rfl, h⟩ := h
  have hu := hr.hu
  refine ⟨_, (pss_cons (ps_if (PW.pt (pw_or (pt_not (pt_val (pe_callB (isiX (K := K)) (by rfl) T.b_isinstance (by decide +kernel) (pa_cons (pv 0) (pa_cons (pe_bltn (v := .ty "tuple") (by rfl) T.b_tuple (by decide +kernel) rfl) pa_nil))))) (pw_or (pt_not (pt_chain oLe oLe pe_int (pe_callB (call_lenX (K := K)) (by rfl) T.b_len (by decide +kernel) (pa_cons (pv 0) pa_nil)) (pe_gk (by rfl) T.c_MOST_NODES))) (pw_or1 (pt_cmpR oIs (pe_ix (ixX (K := K)) (pv 0) (pe_un un_neg pe_int) (fun _ _ => rfl)) pe_non (nomark _)))))) (pss_one (ps_ret pe_bl)) pss_nil)
      (pss_cons (ps_if (pt_not (pt_val (pe_callB (allX (K := K) rfl) (by rfl) T.b_all (by decide +kernel) (pa_cons (pe_lc (own := [("node", 1)]) rfl sc_is_a_store.nd (pi_any (K := K) (pv 0)) (blkOk_by (own := [("node", 1)]) (N := ["value", "node"]) (sc := defScope s_is_a_store) (by decide +kernel)) (fun _ _ _ _ _ => pg_name (i := 1) sc_is_a_store.nd rfl (by first | exact Or.inl rfl | exact Or.inr rfl)) (fun _ _ _ _ _ => pts_nil) (fun _ _ _ _ _ => (pe_or (pe_cmpR oIs (pv 1) pe_non (nomark _)) (pe_one (pe_cal c_is_node (hr.mono (by decide)) (by rfl) pass0 (pa_cons (pv 1) (pa_cons (pe_callB (call_lenX (K := K)) (by rfl) T.b_len (by decide +kernel) (pa_cons (pv 0) pa_nil)) pa_nil))))))) pa_nil)))) (pss_one (ps_ret pe_bl)) pss_nil)
      (pss_one (ps_ret (pe_and (pe_cmpR oIsNot (pe_ix (ixX (K := K)) (pv 0) pe_int (fun _ _ => rfl)) pe_non (nomark _)) (pe_and (pe_cmpR (oEq (K := K) hr.u65) (pe_ix (ixX (K := K)) (pe_ix (ixX (K := K)) (pv 0) pe_int (fun _ _ => rfl)) pe_int (fun _ _ => rfl)) (pe_gk (by rfl) T.c_ROOM) (nomark _)) (pe_one (pe_cal c_hangs_together (hr.mono (by decide)) (by rfl) pass0 (pa_cons (pv 0) pa_nil))))))))), ?_⟩
  rw [show start ["value", "node"] [v_value] = [some v_value, none] from rfl]
  try dsimp only [cxOf, Cx.nox, Cx.wish]
  rcases h with ⟨s, ⟨a, xs, rfl, ha, ps⟩, wf, q⟩ | ⟨t, ty, ht, q⟩
  rotate_left
  · walk_at "rd"
    refine rd_isi ty ht ?_
    walk_at "rd"
    exact q
  have lx := Paired.length ps
  have l1 := wf.l1
  have l2 := wf.l2
  obtain ⟨n, hn⟩ := wf.last
  obtain ⟨v, hv, at1⟩ := pd_getR ps hn
  obtain ⟨a1, y1, rfl, hh1⟩ := at1.head
  walk_at "rd"
  refine rd_isiR ha ?_
  walk_at "rd"
  refine rd_lenT ha.sq ?_
  walk_at "rd"
  rw [decide_eq_true (show (1 : Int) ≤ (xs.length : Int) by omega)]
  walk_at "rd"
  rw [decide_eq_true (show (xs.length : Int) ≤ 60 by omega)]
  walk_at "rd"
  refine ⟨1, rfl, ?_⟩
  refine rd_ixT ha.sq (atI_end (by rw [lx]; exact hv)) ?_
  walk_at "rd"
  refine rd_noI (decide_eq_false fun e => nomatch e) ?_
  walk_at "rd"
  refine rd_lcT ?_
  walk_at "rd"
  refine rd_clT (xs := xs) ha.sq (fun D i H' => Same H H' ∧ H' D = some (.lst ((List.replicate i true).map V.bl))) (fun D hD => ⟨(Same.refl H).new (o := .lst []) hD, upd_same⟩) (fun D i H' _ _ h => (ha.up (Ty.of h.1)).sq) (fun D i x H' hD hx hP => ?_) (fun D H' hD hP => ?_)
  · obtain ⟨k1, hL⟩ := hP
    obtain ⟨m, hm, at2⟩ := pd_getL ps hx
    have im := (List.getElem?_eq_some_iff.mp hx).1
    have fin : ∀ H'', Same H' H'' → ∃ acc, H'' D = some (.lst acc) ∧ acc.length < sizeLine ∧ (Same H (upd H'' D (.lst (acc ++ [V.bl true]))) ∧ (upd H'' D (.lst (acc ++ [V.bl true]))) D = some (.lst ((List.replicate (i + 1) true).map V.bl))) := fun H'' k2 =>
      ⟨_, k2 _ _ hL, szLt (by rw [List.length_map, List.length_replicate]; omega), (k1.trans k2).put hD, by rw [upd_same, List.replicate_succ', List.map_append]; rfl⟩
    walk_at "rd"
    rw [at2.non]
    cases m with
    | none =>
      rw [show (none : Option Nd).isNone = true from rfl]
      walk_at "rd"
      exact fin _ (Same.refl H')
    | some m =>
      rw [show (some m : Option Nd).isNone = false from rfl]
      walk_at "rd"
      refine rd_lenT (ha.up (Ty.of k1)).sq ?_
      walk_at "rd"
      refine ⟨m, s.length, at2.up (Ty.of k1), by rw [lx], by omega, wf.nodes m (List.mem_of_getElem? hm), fun es e => ?_, fun H2 k2 => fin H2 k2⟩
      have := wf.few i
      rw [entsAt_room (by rw [hm, e])] at this
      exact this
  · obtain ⟨k1, hL⟩ := hP
    walk_at "rd"
    refine rd_all (SqL.of hL) ?_
    have e : (List.replicate xs.length true).all id = true := by
      rw [List.all_eq_true]
      intro x hx
      rw [(List.mem_replicate.mp hx).2]
      rfl
    rw [e]
    walk_at "rd"
    obtain ⟨es0, hroot⟩ := wf.root
    obtain ⟨v0, hv0, a0, b0, rfl, hh0, _⟩ := pd_getR ps hroot
    have ha1 := ha.up (Ty.of k1)
    have hh01 := hh0.up (Ty.of k1)
    refine rd_ixT ha1.sq (atI_nat (j := 0) hv0) ?_
    walk_at "rd"
    refine rd_yesI (by rfl) ?_
    walk_at "rd"
    refine rd_ixT ha1.sq (atI_nat (j := 0) hv0) ?_
    walk_at "rd"
    refine rd_ixT hh01.sq rfl ?_
    walk_at "rd"
    rw [decide_eq_true rfl]
    walk_at "rd"
    exact ⟨s, ⟨a, xs, rfl, ha1, pd_mono (fun _ _ q => NdAt.up q (Ty.of k1)) ps⟩, wf, fun H2 k2 => q H2 (k1.trans k2)⟩
def Φ_is_room (K : PySem.W.Frag) (v vn : V) (H : Hp) (Q : VK) : Prop := ∃ (s : Sto) (k : Nat), StAt H v s ∧ vn = .int k ∧ k < s.length ∧ Q (.bl (isRoom (s.getD k none))) H
theorem ok_is_room (T : Txt P K mg) {f : Addr} {fd : FuncData} (F : Fun K "is_room" "is_room" s_is_room f fd) : Keeps P w K mg base CX0 1 f fd ["store", "number"] (sp2 (Φ_is_room K)) := by
  refine keeps0_of F sc_is_room (fun vs H Q E h => ?_) (fun cdv A outer s H vs Q E hr h => ?_)
  · obtain ⟨_, _, rfl, _⟩ := h
    rfl
  obtain ⟨v_store, v_number, rfl, h⟩ := h
  have hu := hr.hu
  refine ⟨_, (pss_one (ps_ret (pe_and (pe_cmpR oIsNot (pe_ix (ixX (K := K)) (pv 0) (pv 1) (fun _ _ => rfl)) pe_non (nomark _)) (pe_one (pe_cmpR (oEq (K := K) hr.u65) (pe_ix (ixX (K := K)) (pe_ix (ixX (K := K)) (pv 0) (pv 1) (fun _ _ => rfl)) pe_int (fun _ _ => rfl)) (pe_gk (by rfl) T.c_ROOM) (nomark _)))))), ?_⟩
  rw [show start ["store", "number"] [v_store, v_number] = [some v_store, some v_number] from rfl]
  try dsimp only [cxOf, Cx.nox, Cx.wish]
  obtain ⟨s, k, ⟨a, xs, rfl, ha, ps⟩, rfl, hk, q⟩ := h
  have hs : s[k]? = some s[k] := List.getElem?_eq_getElem hk
  obtain ⟨v, hv, at1⟩ := pd_getR ps hs
  have e0 : s.getD k none = s[k] := by rw [List.getD_eq_getElem?_getD, hs]; rfl
  rw [e0] at q
  walk_at "rd"
  refine rd_ixT ha.sq (atI_nat hv) ?_
  walk_at "rd"
  rw [at1.non]
  cases e : s[k] with
  | none =>
    rw [show (none : Option Nd).isNone = true from rfl]
    rw [e] at q
    walk_at "rd"
    exact q
  | some n =>
    rw [show (some n : Option Nd).isNone = false from rfl]
    rw [e] at q at1
    obtain ⟨a1, y1, rfl, hh1⟩ := at1.head
    walk_at "rd"
    refine rd_ixT ha.sq (atI_nat hv) ?_
    walk_at "rd"
    refine rd_ixT hh1.sq rfl ?_
    walk_at "rd"
    rw [wordN_room]
    exact q
def Φ_need_store (K : PySem.W.Frag) (mg : Str → Option Value) (v : V) (H : Hp) (Q : VK) (E : XK) : Prop := (∃ s, StAt H v s ∧ Wf s ∧ ∀ H', Same H H' → Q .non H') ∨ ∃ t, TyX K H v t ∧ PySem.W.kitOne K t (.type "tuple") = some false ∧ ∀ C, mg "InvalidStore" = some (.ref C) → E (.ref C) none H
theorem ok_need_store (T : Txt P K mg) {f : Addr} {fd : FuncData} (F : Fun K "need_store" "need_store" s_need_store f fd) : Keeps P w K mg base (L2.CX P w) 5 f fd ["store"] (sp1x (Φ_need_store K mg)) := by
  obtain ⟨C_InvalidStore, e_InvalidStore⟩ := T.e_InvalidStore
  have c_is_a_store := cal (P := P) (w := w) (base := base) T.d_is_a_store fun F => ok_is_a_store T F
  refine keeps_of F sc_need_store (fun vs H Q E h => ?_) (fun cdv A outer s H vs Q E hr h => ?_)
  · obtain ⟨_, rfl, _⟩ := h
    rfl
  obtain ⟨v_store, rfl, h⟩ := h
  have hu := hr.hu
  refine ⟨_, (pss_one (ps_if (pt_not (pt_val (pe_cal c_is_a_store (hr.mono (by decide)) (by rfl) pass0 (pa_cons (pv 0) pa_nil)))) (pss_one (ps_raiseX rfl (takes_of rfl rfl rfl rfl) e_InvalidStore (by rfl))) pss_nil)), ?_⟩
  rw [show start ["store"] [v_store] = [some v_store] from rfl]
  try dsimp only [cxOf, Cx.nox, Cx.wish]
  rcases h with ⟨s, hs, wf, q⟩ | ⟨t, ty, ht, q⟩
  · walk_at "rd"
    refine .inl ⟨s, hs, wf, fun H1 k1 => ?_⟩
    walk_at "rd"
    exact q H1 k1
  · walk_at "rd"
    refine .inr ⟨t, ty, ht, ?_⟩
    walk_at "rd"
    exact q _ e_InvalidStore.g
def KV (v : V) : Prop := (∃ i : Int, v = .int i) ∨ v = .non ∨ ∃ b, v = .bl b
def roomV (s : Sto) : V → Bool
  | .int i => decide (0 ≤ i) && decide (i < s.length) && isRoom (s.getD i.toNat none)
  | _ => false
theorem roomV_int {s : Sto} {i : Int} : roomV s (.int i) = (decide (0 ≤ i) && decide (i < s.length) && isRoom (s.getD i.toNat none)) := rfl
def Φ_need_room (K : PySem.W.Frag) (mg : Str → Option Value) (v vh : V) (H : Hp) (Q : VK) (E : XK) : Prop := ∃ s, StAt H v s ∧ KV vh ∧ (roomV s vh = true → Q .non H) ∧ (roomV s vh = false → ∀ C, mg "InvalidRoom" = some (.ref C) → E (.ref C) none H)
theorem ok_need_room (T : Txt P K mg) {f : Addr} {fd : FuncData} (F : Fun K "need_room" "need_room" s_need_room f fd) : Keeps P w K mg base (L2.CX P w) 2 f fd ["store", "here"] (sp2x (Φ_need_room K mg)) := by
  obtain ⟨C_InvalidRoom, e_InvalidRoom⟩ := T.e_InvalidRoom
  have c_is_whole := cal (P := P) (w := w) (base := base) T.d_is_whole fun F => ok_is_whole T F
  have c_is_room := cal (P := P) (w := w) (base := base) T.d_is_room fun F => ok_is_room T F
  refine keeps_of F sc_need_room (fun vs H Q E h => ?_) (fun cdv A outer s H vs Q E hr h => ?_)
  · obtain ⟨_, _, rfl, _⟩ := h
    rfl
  obtain ⟨v_store, v_here, rfl, h⟩ := h
  have hu := hr.hu
  refine ⟨_, (pss_one (ps_if (PW.pt (pw_or (pt_not (pt_val (pe_cal c_is_whole (hr.mono (by decide)) (by rfl) pass0 (pa_cons (pv 1) pa_nil)))) (pw_or (pt_not (pt_chain oLe oLt pe_int (pv 1) (pe_callB (call_lenX (K := K)) (by rfl) T.b_len (by decide +kernel) (pa_cons (pv 0) pa_nil)))) (pw_or1 (pt_not (pt_val (pe_cal c_is_room (hr.mono (by decide)) (by rfl) pass0 (pa_cons (pv 0) (pa_cons (pv 1) pa_nil))))))))) (pss_one (ps_raiseX rfl (takes_of rfl rfl rfl rfl) e_InvalidRoom (by rfl))) pss_nil)), ?_⟩
  rw [show start ["store", "here"] [v_store, v_here] = [some v_store, some v_here] from rfl]
  try dsimp only [cxOf, Cx.nox, Cx.wish]
  obtain ⟨s, hs, kv, q1, q2⟩ := h
  have hs' := hs
  obtain ⟨a, xs, rfl, ha, ps⟩ := hs'
  have lx := Paired.length ps
  rcases kv with ⟨i, rfl⟩ | kv
  · walk_at "rd"
    refine .inl ⟨i, rfl, ?_⟩
    walk_at "rd"
    cases e1 : decide ((0 : Int) ≤ i) with
    | false =>
      walk_at "rd"
      exact q2 (by rw [roomV_int, e1]; rfl) _ e_InvalidRoom.g
    | true =>
      walk_at "rd"
      refine rd_lenT ha.sq ?_
      walk_at "rd"
      rw [lx]
      cases e2 : decide (i < (s.length : Int)) with
      | false =>
        walk_at "rd"
        exact q2 (by rw [roomV_int, e1, e2]; rfl) _ e_InvalidRoom.g
      | true =>
        have h0 := of_decide_eq_true e1
        have h1 := of_decide_eq_true e2
        walk_at "rd"
        refine ⟨s, i.toNat, hs, by rw [Int.toNat_of_nonneg h0], by omega, ?_⟩
        cases e3 : isRoom (s.getD i.toNat none) with
        | false =>
          walk_at "rd"
          exact q2 (by rw [roomV_int, e1, e2, e3]; rfl) _ e_InvalidRoom.g
        | true =>
          walk_at "rd"
          exact q1 (by rw [roomV_int, e1, e2, e3]; rfl)
  · walk_at "rd"
    refine .inr ⟨kv, ?_⟩
    walk_at "rd"
    refine q2 ?_ _ e_InvalidRoom.g
    rcases kv with rfl | ⟨b, rfl⟩ <;> rfl
def Φ_entry_names (K : PySem.W.Frag) (v vn : V) (H : Hp) (Q : VK) : Prop := ∃ (s : Sto) (k : Nat) (es : List (Str × Nat)), StAt H v s ∧ vn = .int k ∧ s[k]? = some (some (.room es)) ∧ es.length ≤ 1000 ∧ ∀ D H', H D = none → Same H H' → H' D = some (.lst (es.map fun e => V.str e.1)) → Q (.ref D) H'
theorem ok_entry_names (T : Txt P K mg) {f : Addr} {fd : FuncData} (F : Fun K "entry_names" "entry_names" s_entry_names f fd) : Keeps P w K mg base CX0 1 f fd ["store", "number"] (sp2 (Φ_entry_names K)) := by
  refine keeps0_of F sc_entry_names (fun vs H Q E h => ?_) (fun cdv A outer s H vs Q E hr h => ?_)
  · obtain ⟨_, _, rfl, _⟩ := h
    rfl
  obtain ⟨v_store, v_number, rfl, h⟩ := h
  have hu := hr.hu
  refine ⟨_, (pss_one (ps_ret (pe_lc (own := [("name", 2), ("other", 3)]) rfl sc_entry_names.nd (pi_any (K := K) (pe_ix (ixX (K := K)) (pe_ix (ixX (K := K)) (pv 0) (pv 1) (fun _ _ => rfl)) pe_int (fun _ _ => rfl))) (blkOk_by (own := [("name", 2), ("other", 3)]) (N := ["store", "number", "name", "other"]) (sc := defScope s_entry_names) (by decide +kernel)) (fun _ _ _ _ _ => pg_seqX (K := K) (n := 2) rfl (pgs_cons (pg_name (i := 2) sc_entry_names.nd rfl (by first | exact Or.inl rfl | exact Or.inr rfl)) (pgs_cons (pg_name (i := 3) sc_entry_names.nd rfl (by first | exact Or.inl rfl | exact Or.inr rfl)) pgs_nil))) (fun _ _ _ _ _ => pts_nil) (fun _ _ _ _ _ => (pv 2))))), ?_⟩
  rw [show start ["store", "number", "name", "other"] [v_store, v_number] = [some v_store, some v_number, none, none] from rfl]
  try dsimp only [cxOf, Cx.nox, Cx.wish]
  obtain ⟨s, k, es, ⟨a, xs, rfl, ha, ps⟩, rfl, hk, hl, q⟩ := h
  obtain ⟨v, hv, na, nb, rfl, hna, ys, hys, pys⟩ := pd_getR ps hk
  have ly := Paired.length pys
  walk_at "rd"
  refine rd_lcT ?_
  walk_at "rd"
  refine rd_ixT ha.sq (atI_nat hv) ?_
  walk_at "rd"
  refine rd_ixT hna.sq rfl ?_
  refine rd_clT (xs := ys) hys.rt.sq (fun D i H' => Same H H' ∧ H' D = some (.lst ((es.take i).map fun e => V.str e.1))) (fun D hD => ⟨(Same.refl H).new (o := .lst []) hD, upd_same⟩) (fun D i H' _ _ h => (hys.up (Ty.of h.1)).rt.sq) (fun D i x H' hD hx hP => ?_) (fun D H' hD hP => ?_)
  · obtain ⟨k2, hL⟩ := hP
    obtain ⟨e, he, p, rfl, hp⟩ := pd_getL pys hx
    refine rd_lcT1 ?_
    refine rd_gtup (hp.up (Ty.of k2)).sq rfl ?_
    walk_at "rd"
    have le : (es.take i).length ≤ 1000 := by rw [List.length_take]; omega
    refine ⟨_, hL, szLt (by rw [List.length_map]; omega), k2.put hD, ?_⟩
    rw [upd_same, List.take_add_one, he, List.map_append]
    rfl
  · obtain ⟨k2, hL⟩ := hP
    rw [ly, List.take_length] at hL
    exact q D H' hD k2 hL

/-! ## The law's own stores -/
def strB (B : Str → Bool) : V → Bool
  | .str z => B z
  | _ => false
theorem pickB {K : PySem.W.Frag} {p : Addr} {xs : List V} {v : Int} {H : Hp} {Q : VK} (B : Str → Bool) (h : SqL K H p xs) (h0 : 0 ≤ v) (h1 : v < xs.length) (hB : xs.all (strB B) = true) (q : ∀ z, B z = true → Q (.str z) H) : xIx K (.ref p) (.int v) H Q := by
  refine pick h h0 h1 fun x hx => ?_
  have := List.all_eq_true.mp hB x hx
  match x, this with
  | .str z, this => exact q z this
def Φ_law_one_of (K : PySem.W.Frag) (vd vi : V) (H : Hp) (Q : VK) : Prop := ∃ (d p : Addr) (xs : List V) (m : Nat), vd = .ref d ∧ vi = .ref p ∧ H p = some (.lst xs) ∧ p ≠ d ∧ 1 ≤ xs.length ∧ xs.length ≤ 1000 ∧ Dk d m H ∧ m + 1 ≤ LIM ∧
  ∀ x H', x ∈ xs → Dk d (m + 1) H' → Kp d H H' → Q x H'
theorem ok_law_one_of (T : Txt P K mg) {f : Addr} {fd : FuncData} (F : Fun K "_law_one_of" "_law_one_of" s_law_one_of f fd) : Keeps P w K mg base CX0 2 f fd ["deck", "items"] (sp2 (Φ_law_one_of K)) := by
  have c_law_draw := cal (P := P) (w := w) (base := base) T.d_law_draw fun F => ok_law_draw T F
  refine keeps0_of F sc_law_one_of (fun vs H Q E h => ?_) (fun cdv A outer s H vs Q E hr h => ?_)
  · obtain ⟨_, _, rfl, _⟩ := h
    rfl
  obtain ⟨v_deck, v_items, rfl, h⟩ := h
  have hu := hr.hu
  refine ⟨_, (pss_one (ps_ret (pe_ix (ixX (K := K)) (pv 1) (pe_cal c_law_draw (hr.mono (by decide)) (by rfl) pass0 (pa_cons (pv 0) (pa_cons (pe_callB (call_lenX (K := K)) (by rfl) T.b_len (by decide +kernel) (pa_cons (pv 1) pa_nil)) pa_nil))) (fun _ _ => rfl)))), ?_⟩
  rw [show start ["deck", "items"] [v_deck, v_items] = [some v_deck, some v_items] from rfl]
  try dsimp only [cxOf, Cx.nox, Cx.wish]
  obtain ⟨d, p, xs, m, rfl, rfl, hp, pd, h1, h2, hd, hm, q⟩ := h
  walk_at "rd"
  refine rd_lenL (SqL.of hp) ?_
  walk_at "rd"
  refine use_draw hd (by omega) (by omega) (by omega) fun v H1 v0 v1 d1 k1 => ?_
  exact pick (SqL.of (k1 _ _ pd hp)) v0 v1 fun x hx => q x H1 hx d1 k1
def Φ_law_mixed (K : PySem.W.Frag) (vd vi : V) (H : Hp) (Q : VK) : Prop := ∃ (d p : Addr) (α : Type) (as : List α) (f : α → V) (m : Nat), vd = .ref d ∧ vi = .ref p ∧ H p = some (.lst (as.map f)) ∧ p ≠ d ∧ as.length ≤ 1000 ∧ Dk d m H ∧ m + as.length ≤ LIM ∧
  ∀ (r : Addr) (bs : List α) (H' : Hp), H r = none → bs.Perm as → H' r = some (.lst (bs.map f)) → Dk d (m + as.length) H' → Kp d H H' → Q (.ref r) H'
theorem seqIdx {n k : Nat} (h : k < n) : PySem.seqIndex? (k : Int) n = some k := by
  unfold PySem.seqIndex?
  have h1 : ¬ ((k : Int) < 0) := by omega
  have h2 : (decide (0 ≤ (k : Int)) && decide ((k : Int) < (n : Int))) = true := by
    rw [Bool.and_eq_true, decide_eq_true_eq, decide_eq_true_eq]
    omega
  simp only [h1, if_false]
  rw [if_pos h2, Int.toNat_natCast]
theorem erase_perm {α : Type} : ∀ {l : List α} {k : Nat} {x : α}, l[k]? = some x → (x :: l.eraseIdx k).Perm l
  | [], k, x, h => by simp at h
  | y :: l, 0, x, h => by
    cases h
    exact List.Perm.refl _
  | y :: l, k + 1, x, h => by
    have := erase_perm (l := l) (k := k) h
    exact (List.Perm.swap y x _).trans (this.cons y)
theorem ok_law_mixed (T : Txt P K mg) {f : Addr} {fd : FuncData} (F : Fun K "_law_mixed" "_law_mixed" s_law_mixed f fd) : Keeps P w K mg base CX0 2 f fd ["deck", "items"] (sp2 (Φ_law_mixed K)) := by
  have c_law_draw := cal (P := P) (w := w) (base := base) T.d_law_draw fun F => ok_law_draw T F
  refine keeps0_of F sc_law_mixed (fun vs H Q E h => ?_) (fun cdv A outer s H vs Q E hr h => ?_)
  · obtain ⟨_, _, rfl, _⟩ := h
    rfl
  obtain ⟨v_deck, v_items, rfl, h⟩ := h
  have hu := hr.hu
  refine ⟨_, (pss_cons (ps_set (i := 2) sc_law_mixed.nd rfl (by first | exact Or.inl rfl | exact Or.inr rfl) (pe_callTy (callListX (K := K)) (by rfl) T.b_list (by decide +kernel) (pa_cons (pv 1) pa_nil)))
      (pss_cons (ps_set (i := 3) sc_law_mixed.nd rfl (by first | exact Or.inl rfl | exact Or.inr rfl) (pe_lst pa_nil))
      (pss_cons (ps_for PassesOwn.never rfl (pi_range1 (by rfl) T.b_range (pa_cons (pe_callB (call_lenX (K := K)) (by rfl) T.b_len (by decide +kernel) (pa_cons (pv 2) pa_nil)) pa_nil)) (pg_name (i := 4) sc_law_mixed.nd rfl (by first | exact Or.inl rfl | exact Or.inr rfl)) (pss_one (ps_expr (pe_bmX (K := K) PySem.F.plainAttrs_list PySem.F.slot_list_append PySem.F.type_list_append mt_append (pv 3) (pa_cons (pe_bmX (K := K) PySem.F.plainAttrs_list PySem.F.slot_list_pop PySem.F.type_list_pop mt_popAt (pv 2) (pa_cons (pe_cal c_law_draw (hr.mono (by decide)) (by rfl) pass0 (pa_cons (pv 0) (pa_cons (pe_callB (call_lenX (K := K)) (by rfl) T.b_len (by decide +kernel) (pa_cons (pv 2) pa_nil)) pa_nil))) pa_nil)) pa_nil)))))
      (pss_one (ps_ret (pv 3)))))), ?_⟩
  rw [show start ["deck", "items", "left", "found", "turn"] [v_deck, v_items] = [some v_deck, some v_items, none, none, none] from rfl]
  try dsimp only [cxOf, Cx.nox, Cx.wish]
  obtain ⟨d, p, α, as, f, m, rfl, rfl, hp, pd, hl, hd, hm, q⟩ := h
  walk_at "rd"
  refine rd_lstL (SqL.of hp) fun l hl1 => ?_
  have d1 := hd.new (o := .lst (as.map f)) hl1
  have k1 := (Kp.refl d H).new (o := .lst (as.map f)) hl1
  have ld := (hd.ne hl1).symm
  have p1 : upd H l (.lst (as.map f)) l = some (.lst (as.map f)) := upd_same
  generalize upd H l (.lst (as.map f)) = H1 at d1 k1 p1 ⊢
  walk_at "rd"
  intro r hr
  have d2 := d1.new (o := .lst []) hr
  have k2 := k1.new (o := .lst []) hr
  have rd' := (d1.ne hr).symm
  have rl : r ≠ l := fun e => by rw [e, p1] at hr; cases hr
  have hrH : H r = none := k1.free rd' hr
  have p2 : upd H1 r (.lst []) l = some (.lst (as.map f)) := by rw [upd_ne rl.symm]; exact p1
  have r2 : upd H1 r (.lst []) r = some (.lst ([].map f)) := upd_same
  generalize upd H1 r (.lst []) = H2 at d2 k2 p2 r2 ⊢
  walk_at "rd"
  refine rd_lenL (SqL.of p2) ?_
  rw [List.length_map]
  walk_at "rd"
  refine rd_itR (by omega) (by omega) (fun i σ H' => Kp d H H' ∧ Dk d (m + i) H' ∧ ∃ (ls fs : List α) (x4 : Option V), ls.length + i = as.length ∧ (fs ++ ls).Perm as ∧ H' l = some (.lst (ls.map f)) ∧ H' r = some (.lst (fs.map f)) ∧ σ = [some (.ref d), some (.ref p), some (.ref l), some (.ref r), x4]) ⟨k2, d2, as, [], _, rfl, List.Perm.refl _, p2, r2, rfl⟩ ?_ ?_
  · rintro i σ H3 hi ⟨k3, d3, ls, fs, x4, ll, pm, p3, r3, rfl⟩
    have fl := pm.length_eq
    rw [List.length_append] at fl
    walk_at "rd"
    refine rd_tyL (SqL.of r3) ?_
    walk_at "rd"
    refine rd_tyL (SqL.of p3) ?_
    walk_at "rd"
    refine rd_lenL (SqL.of p3) ?_
    rw [List.length_map]
    walk_at "rd"
    have hi2 : i < as.length := by omega
    refine use_draw d3 (by omega) (by omega) (by omega) fun v H4 v0 v1 d4 k4 => ?_
    obtain ⟨v, rfl⟩ : ∃ k : Nat, v = (k : Int) := ⟨v.toNat, by omega⟩
    have vl : v < ls.length := by omega
    have p4 := k4 _ _ ld p3
    have r4 := k4 _ _ rd' r3
    have hx : ls[v]? = some ls[v] := List.getElem?_eq_getElem vl
    walk_at "rd"
    refine ⟨l, ls.map f, v, v, f ls[v], rfl, rfl, p4, by omega, by omega, by rw [List.length_map]; exact seqIdx vl, by rw [List.getElem?_map, hx]; rfl, ?_⟩
    walk_at "rd"
    have r5 : upd H4 l (.lst ((ls.map f).eraseIdx v)) r = some (.lst (fs.map f)) := by rw [upd_ne rl]; exact r4
    refine rd_app r5 (szLt (by rw [List.length_map]; omega)) ?_
    refine ⟨((k3.trans k4).put hl1).put hrH, ((d4.put ld.symm).put rd'.symm).mono (by omega), ls.eraseIdx v, fs ++ [ls[v]], _, by rw [List.length_eraseIdx_of_lt vl]; omega, ?_, ?_, ?_, rfl⟩
    · rw [List.append_assoc]
      exact ((erase_perm hx).append_left fs).trans pm
    · rw [upd_ne rl.symm, upd_same, DT.map_erase]
    · rw [upd_same, List.map_append]
      rfl
  · rintro σ H3 ⟨k3, d3, ls, fs, x4, ll, pm, p3, r3, rfl⟩
    walk_at "rd"
    have : ls = [] := List.length_eq_zero_iff.mp (by omega)
    rw [this, List.append_nil] at pm
    exact q r fs H3 hrH pm r3 d3 k3
def Φ_law_name (K : PySem.W.Frag) (vd : V) (H : Hp) (Q : VK) : Prop := ∃ (d : Addr) (m : Nat), vd = .ref d ∧ Dk d m H ∧ m + 1 ≤ LIM ∧ ∀ (z : Str) (H' : Hp), entB z = true → Dk d (m + 1) H' → Kp d H H' → Q (.str z) H'
theorem ok_law_name (T : Txt P K mg) {f : Addr} {fd : FuncData} (F : Fun K "_law_name" "_law_name" s_law_name f fd) : Keeps P w K mg base CX0 2 f fd ["deck"] (sp1 (Φ_law_name K)) := by
  have c_law_draw := cal (P := P) (w := w) (base := base) T.d_law_draw fun F => ok_law_draw T F
  refine keeps0_of F sc_law_name (fun vs H Q E h => ?_) (fun cdv A outer s H vs Q E hr h => ?_)
  · obtain ⟨_, rfl, _⟩ := h
    rfl
  obtain ⟨v_deck, rfl, h⟩ := h
  have hu := hr.hu
  refine ⟨_, (pss_one (ps_ret (pe_ix (ixX (K := K)) (pe_lst (pa_cons pe_str (pa_cons pe_str (pa_cons pe_str (pa_cons pe_str (pa_cons pe_str (pa_cons pe_str (pa_cons pe_str (pa_cons pe_str (pa_cons pe_str (pa_cons pe_str (pa_cons pe_str (pa_cons pe_str pa_nil))))))))))))) (pe_cal c_law_draw (hr.mono (by decide)) (by rfl) pass0 (pa_cons (pv 0) (pa_cons pe_int pa_nil))) (fun _ _ => rfl)))), ?_⟩
  rw [show start ["deck"] [v_deck] = [some v_deck] from rfl]
  try dsimp only [cxOf, Cx.nox, Cx.wish]
  obtain ⟨d, m, rfl, hd, hm, q⟩ := h
  walk_at "rd"
  intro p hp
  walk_at "rd"
  refine use_draw (hd.new hp) (by decide) (by decide) (by omega) fun v H1 v0 v1 d1 k1 => ?_
  refine pickB entB (SqL.of (k1 p _ (hd.ne hp).symm upd_same)) v0 v1 (by decide +kernel) fun z hz => ?_
  exact q z H1 hz d1 (((Kp.refl d H).new hp).trans k1)
def Φ_law_text (K : PySem.W.Frag) (vd : V) (H : Hp) (Q : VK) : Prop := ∃ (d : Addr) (m : Nat), vd = .ref d ∧ Dk d m H ∧ m + 1 ≤ LIM ∧ ∀ (z : Str) (H' : Hp), textB z = true → Dk d (m + 1) H' → Kp d H H' → Q (.str z) H'
theorem ok_law_text (T : Txt P K mg) {f : Addr} {fd : FuncData} (F : Fun K "_law_text" "_law_text" s_law_text f fd) : Keeps P w K mg base CX0 2 f fd ["deck"] (sp1 (Φ_law_text K)) := by
  have c_law_draw := cal (P := P) (w := w) (base := base) T.d_law_draw fun F => ok_law_draw T F
  refine keeps0_of F sc_law_text (fun vs H Q E h => ?_) (fun cdv A outer s H vs Q E hr h => ?_)
  · obtain ⟨_, rfl, _⟩ := h
    rfl
  obtain ⟨v_deck, rfl, h⟩ := h
  have hu := hr.hu
  refine ⟨_, (pss_one (ps_ret (pe_ix (ixX (K := K)) (pe_lst (pa_cons pe_str (pa_cons pe_str (pa_cons pe_str (pa_cons pe_str (pa_cons pe_str (pa_cons pe_str (pa_cons pe_str (pa_cons (pe_op (oMul (K := K)) pe_str pe_int) (pa_cons pe_str pa_nil)))))))))) (pe_cal c_law_draw (hr.mono (by decide)) (by rfl) pass0 (pa_cons (pv 0) (pa_cons pe_int pa_nil))) (fun _ _ => rfl)))), ?_⟩
  rw [show start ["deck"] [v_deck] = [some v_deck] from rfl]
  try dsimp only [cxOf, Cx.nox, Cx.wish]
  obtain ⟨d, m, rfl, hd, hm, q⟩ := h
  walk_at "rd"
  intro p hp
  walk_at "rd"
  refine use_draw (hd.new hp) (by decide) (by decide) (by omega) fun v H1 v0 v1 d1 k1 => ?_
  refine pickB textB (SqL.of (k1 p _ (hd.ne hp).symm upd_same)) v0 v1 (by decide +kernel) fun z hz => ?_
  exact q z H1 hz d1 (((Kp.refl d H).new hp).trans k1)
/-! ### paths, put together -/
theorem word_noslash {w : Str} (h : wordB w = true) : 47 ∉ tl w := by
  unfold wordB at h
  rw [Bool.or_eq_true, Bool.or_eq_true] at h
  rcases h with (h | h) | h
  · rw [beq_iff_eq.mp h]; decide +kernel
  · rw [beq_iff_eq.mp h]; decide +kernel
  · unfold entB at h
    rw [Bool.and_eq_true] at h
    intro m
    have := List.all_eq_true.mp h.2 47 m
    revert this
    decide +kernel
theorem word_len {w : Str} (h : wordB w = true) : 1 ≤ w.length ∧ w.length ≤ 12 := by
  unfold wordB at h
  rw [Bool.or_eq_true, Bool.or_eq_true] at h
  rcases h with (h | h) | h
  · rw [beq_iff_eq.mp h]; decide +kernel
  · rw [beq_iff_eq.mp h]; decide +kernel
  · exact entB_len h
theorem ent_word {w : Str} (h : entB w = true) : wordB w = true := by
  unfold wordB
  rw [h, Bool.or_true]
theorem split_words {ws : List Str} (hne : ws ≠ []) (hw : ∀ w ∈ ws, wordB w = true) : Txt.split (Txt.join "/" ws) "/" = ws :=
  TL.split_join (s := 47) (S := []) tl_slash (by decide +kernel) hne fun w h => word_noslash (hw w h)
theorem join_tl {w : Str} {ws : List Str} : ∃ r, tl (Txt.join "/" (w :: ws)) = tl w ++ r := by
  rw [TL.join_eq, TL.tl_join]
  cases ws with
  | nil => exact ⟨[], by rw [List.append_nil]; rfl⟩
  | cons u ws => exact ⟨_, rfl⟩
theorem join_len {ws : List Str} (hw : ∀ w ∈ ws, wordB w = true) : (Txt.join "/" ws).length ≤ ws.length * 13 := by
  have s1 := join_le "/" ws 12 fun w h => (word_len (hw w h)).2
  have s2 := len_join "/" ws
  have s3 : ("/" : Str).length = 1 := by decide +kernel
  rw [s3] at s2
  omega
theorem path_of {z : Str} {ws : List Str} (hne : ws ≠ []) (hl : ws.length ≤ 7) (hw : ∀ w ∈ ws, wordB w = true) (hz : z = "" ∨ z = "/") : pathB (.str (z ++ Txt.join "/" ws)) = true := by
  have jl := join_len hw
  have zl : z.length ≤ 1 := by rcases hz with rfl | rfl <;> decide +kernel
  cases ws with
  | nil => exact absurd rfl hne
  | cons w ws =>
    obtain ⟨r, hr⟩ := join_tl (w := w) (ws := ws)
    obtain ⟨c, q, hc⟩ : ∃ c q, tl w = c :: q := by
      cases e : tl w with
      | nil => have := (word_len (hw w List.mem_cons_self)).1; rw [← len_tl, e] at this; cases this
      | cons c q => exact ⟨c, q, rfl⟩
    have c47 : c ≠ 47 := fun e => word_noslash (hw w List.mem_cons_self) (by rw [hc, e]; exact List.mem_cons_self)
    rw [hc] at hr
    have rest : restOf (z ++ Txt.join "/" (w :: ws)) = Txt.join "/" (w :: ws) := by
      rcases hz with rfl | rfl
      · have e : ("" : Str) ++ Txt.join "/" (w :: ws) = Txt.join "/" (w :: ws) := str_ext (by rw [tl_app, tl_nil]; rfl)
        rw [e, rest_cons hr, if_neg]
        intro e
        have := congrArg tl e
        rw [tl_sg, tl_slash] at this
        exact c47 (List.cons.inj this).1
      · have e : tl (("/" : Str) ++ Txt.join "/" (w :: ws)) = 47 :: tl (Txt.join "/" (w :: ws)) := by rw [tl_app, tl_slash]; rfl
        rw [rest_cons e, if_pos (by decide +kernel)]
        refine str_ext ?_
        rw [show (1 : Int) = ((1 : Nat) : Int) from rfl, tl_drop, e]
        rfl
    have hlen : (z ++ Txt.join "/" (w :: ws)).length ≤ 100 := by rw [len_app]; omega
    have hlen1 : 1 ≤ (z ++ Txt.join "/" (w :: ws)).length := by
      rw [len_app, ← len_tl (Txt.join "/" (w :: ws)), hr]
      rw [List.length_append, List.length_cons]
      omega
    rw [pathB_str, decide_eq_true hlen1, decide_eq_true hlen, rest, split_words (List.cons_ne_nil _ _) hw, List.all_eq_true.mpr hw, Bool.or_true]
    rfl
def Φ_law_path (K : PySem.W.Frag) (vd vm : V) (H : Hp) (Q : VK) : Prop := ∃ (d : Addr) (n m : Nat), vd = .ref d ∧ vm = .int n ∧ n ≤ 6 ∧ Dk d m H ∧ m + 20 ≤ LIM ∧ ∀ (z : Str) (H' : Hp), pathB (.str z) = true → Dk d (m + 20) H' → Kp d H H' → Q (.str z) H'
theorem ok_law_path (T : Txt P K mg) {f : Addr} {fd : FuncData} (F : Fun K "_law_path" "_law_path" s_law_path f fd) : Keeps P w K mg base CX0 3 f fd ["deck", "most"] (sp2 (Φ_law_path K)) := by
  have c_law_draw := cal (P := P) (w := w) (base := base) T.d_law_draw fun F => ok_law_draw T F
  have c_law_name := cal (P := P) (w := w) (base := base) T.d_law_name fun F => ok_law_name T F
  refine keeps0_of F sc_law_path (fun vs H Q E h => ?_) (fun cdv A outer s H vs Q E hr h => ?_)
  · obtain ⟨_, _, rfl, _⟩ := h
    rfl
  obtain ⟨v_deck, v_most, rfl, h⟩ := h
  have hu := hr.hu
  refine ⟨_, (pss_cons (ps_set (i := 2) sc_law_path.nd rfl (by first | exact Or.inl rfl | exact Or.inr rfl) (pe_lst pa_nil))
      (pss_cons (ps_for PassesOwn.never rfl (pi_range1 (by rfl) T.b_range (pa_cons (pe_cal c_law_draw (hr.mono (by decide)) (by rfl) pass0 (pa_cons (pv 0) (pa_cons (pe_op (oAdd (K := K)) (pv 1) pe_int) pa_nil))) pa_nil)) (pg_name (i := 3) sc_law_path.nd rfl (by first | exact Or.inl rfl | exact Or.inr rfl)) (pss_one (ps_expr (pe_bmX (K := K) PySem.F.plainAttrs_list PySem.F.slot_list_append PySem.F.type_list_append mt_append (pv 2) (pa_cons (pe_ifExp (pt_cmpR oGt (pe_cal c_law_draw (hr.mono (by decide)) (by rfl) pass0 (pa_cons (pv 0) (pa_cons pe_int pa_nil))) pe_int (nomark _)) (pe_cal c_law_name (hr.mono (by decide)) (by rfl) pass0 (pa_cons (pv 0) pa_nil)) (pe_ix (ixX (K := K)) (pe_lst (pa_cons pe_str (pa_cons pe_str (pa_cons pe_str pa_nil)))) (pe_cal c_law_draw (hr.mono (by decide)) (by rfl) pass0 (pa_cons (pv 0) (pa_cons pe_int pa_nil))) (fun _ _ => rfl))) pa_nil)))))
      (pss_cons (ps_if (pt_cmpR (oEq (K := K) hr.u65) (pv 2) (pe_lst pa_nil) (nomark _)) (pss_one (ps_ret (pe_ix (ixX (K := K)) (pe_lst (pa_cons pe_str (pa_cons pe_str pa_nil))) (pe_cal c_law_draw (hr.mono (by decide)) (by rfl) pass0 (pa_cons (pv 0) (pa_cons pe_int pa_nil))) (fun _ _ => rfl)))) pss_nil)
      (pss_one (ps_ret (pe_op (oAdd (K := K)) (pe_ix (ixX (K := K)) (pe_lst (pa_cons pe_str (pa_cons pe_str (pa_cons pe_str pa_nil)))) (pe_cal c_law_draw (hr.mono (by decide)) (by rfl) pass0 (pa_cons (pv 0) (pa_cons pe_int pa_nil))) (fun _ _ => rfl)) (pe_join pe_str (pv 2)))))))), ?_⟩
  rw [show start ["deck", "most", "words", "turn"] [v_deck, v_most] = [some v_deck, some v_most, none, none] from rfl]
  try dsimp only [cxOf, Cx.nox, Cx.wish]
  obtain ⟨d, mm, m, rfl, rfl, hmm, hd, hm, q⟩ := h
  walk_at "rd"
  intro p hp
  walk_at "rd"
  refine use_draw (hd.new hp) (by omega) (by omega) (by omega) fun n H1 n0 n1 d1 k1 => ?_
  have np := hd.ne hp
  have kk := ((Kp.refl d H).new (o := .lst []) hp).trans k1
  walk_at "rd"
  refine rd_itR (by omega) (by omega) (fun i σ H' => Kp d H H' ∧ Dk d (m + 1 + 2 * i) H' ∧ ∃ (ws : List Str) (v : Option V), ws.length = i ∧ (∀ w ∈ ws, wordB w = true) ∧ H' p = some (.lst (ws.map V.str)) ∧ σ = [some (.ref d), some (.int mm), some (.ref p), v])
    ⟨kk, d1, [], none, rfl, (fun _ h => nomatch h), k1.at np, rfl⟩ ?_ ?_
  · rintro i σ H2 hi ⟨k2, d2, ws, v, hl, hw, h2, rfl⟩
    walk_at "rd"
    refine rd_tyL (SqL.of h2) ?_
    walk_at "rd"
    refine use_draw d2 (by decide) (by decide) (by omega) fun a H3 a0 a1 d3 k3 => ?_
    have h3 := k3 p _ np.symm h2
    have fin : ∀ (z : Str) (H4 : Hp), wordB z = true → Dk d (m + 1 + 2 * (i + 1)) H4 → Kp d H3 H4 → rAppend (.ref p) [.str z] H4 fun _ H5 => (Kp d H H5 ∧ Dk d (m + 1 + 2 * (i + 1)) H5 ∧ ∃ (ws : List Str) (u : Option V), ws.length = i + 1 ∧ (∀ w ∈ ws, wordB w = true) ∧ H5 p = some (.lst (ws.map V.str)) ∧ [some (.ref d), some (.int mm), some (.ref p), some (.int i)] = [some (.ref d), some (.int mm), some (.ref p), u]) := by
      intro z H4 hz d4 k4
      have h4 := k4 p _ np.symm h3
      refine rd_app h4 (szLt (by rw [List.length_map]; omega)) ⟨((k2.trans k3).trans k4).put hp, d4.put np, ws ++ [z], _, by rw [List.length_append, hl]; rfl, ?_, by rw [upd_same, List.map_append]; rfl, rfl⟩
      intro y hy
      rcases List.mem_append.mp hy with hy | hy
      · exact hw y hy
      · rw [List.mem_singleton.mp hy]; exact hz
    walk_at "rd"
    refine rd_ite (fun _ => ?_) (fun _ => ?_)
    · walk_at "rd"
      exact ⟨d, _, rfl, d3, by omega, fun z H4 hz d4 k4 => fin z H4 (ent_word hz) d4 k4⟩
    · walk_at "rd"
      intro l hl
      walk_at "rd"
      refine use_draw (d3.new hl) (by decide) (by decide) (by omega) fun b H4 b0 b1 d4 k4 => ?_
      refine pickB wordB (SqL.of (k4.at (d3.ne hl))) b0 b1 (by decide +kernel) fun z hz => ?_
      exact fin z H4 hz d4 (((Kp.refl d H3).new hl).trans k4)
  · rintro σ H2 ⟨k2, d2, ws, v, hl, hw, h2, rfl⟩
    walk_at "rd"
    intro l hl2
    refine rd_eqNil (SqL.of (by rw [upd_ne (ne_of_none h2 hl2)]; exact h2)) (SqL.of upd_same) ?_
    have d3 := d2.new (o := .lst []) hl2
    have k3 := k2.new (o := .lst []) hl2
    have h3 : upd H2 l (.lst []) p = some (.lst (ws.map V.str)) := by
      rw [upd_ne (ne_of_none h2 hl2)]
      exact h2
    walk_at "rd"
    refine rd_ite (fun _ => ?_) (fun hne => ?_)
    · walk_at "rd"
      intro l2 hl3
      walk_at "rd"
      refine use_draw (d3.new hl3) (by decide) (by decide) (by omega) fun b H4 b0 b1 d4 k4 => ?_
      refine pickB (fun z => pathB (.str z)) (SqL.of (k4.at (d3.ne hl3))) b0 b1 (by decide +kernel) fun z hz => ?_
      exact q z H4 hz (d4.mono (by omega)) ((k3.new hl3).trans k4)
    · walk_at "rd"
      intro l2 hl3
      walk_at "rd"
      refine use_draw (d3.new hl3) (by decide) (by decide) (by omega) fun b H4 b0 b1 d4 k4 => ?_
      refine pickB (fun z => z == "" || z == "/") (SqL.of (k4.at (d3.ne hl3))) b0 b1 (by decide +kernel) fun z hz => ?_
      walk_at "rd"
      have h4 := k4 p _ np.symm (by rw [upd_ne (ne_of_none h3 hl3)]; exact h3)
      have s0 := join_len hw
      have s1 := join_le "/" ws 12 fun w h => (word_len (hw w h)).2
      have s3 : ("/" : Str).length = 1 := by decide +kernel
      have hz2 : z = "" ∨ z = "/" := by rw [Bool.or_eq_true] at hz; exact hz.imp beq_iff_eq.mp beq_iff_eq.mp
      have zl : z.length ≤ 1 := by rcases hz2 with rfl | rfl <;> decide +kernel
      refine ⟨_, p, ws, rfl, rfl, .inl (SqL.of h4), by rw [s3]; omega, ?_⟩
      refine rd_addS (szOk (by omega)) ?_
      refine q _ H4 (path_of (fun e => ?_) (by omega) hw hz2) (d4.mono (by omega)) ((k3.new hl3).trans k4)
      rw [e] at hne
      cases hne

/-! ### a drawn store, step by step -/
abbrev Gh := List (Nat × Addr × List (Str × Nat))
inductive GR (G : Gh) : Nat → Prop
  | root : GR G 0
  | step {r : Nat} {a : Addr} {es : List (Str × Nat)} {e : Str × Nat} : GR G r → (r, a, es) ∈ G → e ∈ es → GR G e.2
def rms (G : Gh) : List Nat := G.map (·.1)
theorem rms_mem {G : Gh} {r : Nat} : r ∈ rms G ↔ ∃ a es, (r, a, es) ∈ G := by
  unfold rms
  rw [List.mem_map]
  constructor
  · rintro ⟨⟨r', a, es⟩, h, rfl⟩
    exact ⟨a, es, h⟩
  · rintro ⟨a, es, h⟩
    exact ⟨_, h, rfl⟩
structure GI (G : Gh) (M : List Nat) (c L : Nat) : Prop where
  g0 : 0 ∈ rms G
  nd : (rms G ++ M).Nodup
  lt : ∀ k ∈ rms G ++ M, k < L
  ent : ∀ r a es, (r, a, es) ∈ G → ∀ e ∈ es, entB e.1 = true ∧ e.2 ∈ rms G ++ M ∧ e.2 ≠ 0
  nam : ∀ r a es, (r, a, es) ∈ G → (es.map (·.1)).Nodup ∧ es.length ≤ c
  one : ∀ r a es r' a' es' e e', (r, a, es) ∈ G → (r', a', es') ∈ G → e ∈ es → e' ∈ es' → e.2 = e'.2 → e.2 ∈ rms G → r = r' ∧ e = e'
  rch : ∀ k ∈ rms G ++ M, GR G k
def addE (G : Gh) (r : Nat) (x : Str × Nat) : Gh := G.map fun g => if g.1 = r then (g.1, g.2.1, g.2.2 ++ [x]) else g
section
variable {G : Gh} {M : List Nat} {c L r k : Nat} {x : Str × Nat} {nm : Str}
theorem rms_add : rms (addE G r x) = rms G := by
  unfold rms addE
  rw [List.map_map]
  refine List.map_congr_left fun g _ => ?_
  show (if g.1 = r then (g.1, g.2.1, g.2.2 ++ [x]) else g).1 = g.1
  split <;> rfl
theorem mem_add {r' : Nat} {a : Addr} {es : List (Str × Nat)} : (r', a, es) ∈ addE G r x ↔ (r' ≠ r ∧ (r', a, es) ∈ G) ∨ (r' = r ∧ ∃ es0, (r', a, es0) ∈ G ∧ es = es0 ++ [x]) := by
  unfold addE
  rw [List.mem_map]
  constructor
  · rintro ⟨⟨r1, a1, es1⟩, h, e⟩
    by_cases hr : r1 = r
    · rw [if_pos hr] at e
      cases e
      exact .inr ⟨hr, es1, h, rfl⟩
    · rw [if_neg hr] at e
      cases e
      exact .inl ⟨hr, h⟩
  · rintro (⟨h1, h2⟩ | ⟨h1, es0, h2, rfl⟩)
    · exact ⟨_, h2, by rw [if_neg h1]⟩
    · exact ⟨_, h2, by rw [if_pos h1]⟩
theorem GR.mono {G' : Gh} (h : ∀ r a es, (r, a, es) ∈ G → ∃ es', (r, a, es') ∈ G' ∧ ∀ e ∈ es, e ∈ es') (g : GR G k) : GR G' k := by
  induction g with
  | root => exact .root
  | step _ h1 h2 ih =>
    obtain ⟨es', h3, h4⟩ := h _ _ _ h1
    exact .step ih h3 (h4 _ h2)
theorem add_le : ∀ r' a es, (r', a, es) ∈ G → ∃ es', (r', a, es') ∈ addE G r x ∧ ∀ e ∈ es, e ∈ es' := fun r' a es h => by
  by_cases hr : r' = r
  · exact ⟨es ++ [x], mem_add.mpr (.inr ⟨hr, es, h, rfl⟩), fun e he => List.mem_append_left _ he⟩
  · exact ⟨es, mem_add.mpr (.inl ⟨hr, h⟩), fun e he => he⟩
/-- an entry of the changed list is an old one or the new one, in its room -/
theorem ent_old {r' : Nat} {a : Addr} {es : List (Str × Nat)} {e : Str × Nat} (h : (r', a, es) ∈ addE G r x) (he : e ∈ es) : (∃ es0, (r', a, es0) ∈ G ∧ e ∈ es0) ∨ (r' = r ∧ e = x) := by
  rcases mem_add.mp h with ⟨_, h2⟩ | ⟨h1, es0, h2, rfl⟩
  · exact .inl ⟨es, h2, he⟩
  · rcases List.mem_append.mp he with he | he
    · exact .inl ⟨es0, h2, he⟩
    · exact .inr ⟨h1, List.mem_singleton.mp he⟩
theorem nam_add (g : GI G M c L) (fresh : ∀ a es, (r, a, es) ∈ G → nm ∉ es.map (·.1)) {r' : Nat} {a : Addr} {es : List (Str × Nat)} (h : (r', a, es) ∈ addE G r (nm, k)) : (es.map (·.1)).Nodup ∧ es.length ≤ c + 1 := by
  rcases mem_add.mp h with ⟨_, h2⟩ | ⟨h1, es0, h2, rfl⟩
  · exact ⟨(g.nam _ _ _ h2).1, Nat.le_succ_of_le (g.nam _ _ _ h2).2⟩
  · subst h1
    obtain ⟨n1, n2⟩ := g.nam _ _ _ h2
    refine ⟨?_, by rw [List.length_append]; exact Nat.succ_le_succ n2⟩
    rw [List.map_append]
    refine List.nodup_append.mpr ⟨n1, List.nodup_cons.mpr ⟨List.not_mem_nil, List.nodup_nil⟩, fun y hy z hz e => ?_⟩
    have hz : z ∈ [nm] := hz
    rw [List.mem_singleton.mp hz] at e
    exact fresh _ _ h2 (e ▸ hy)
theorem GI.link (g : GI G M c L) (hr : r ∈ rms G) (ok : entB nm = true) (fresh : ∀ a es, (r, a, es) ∈ G → nm ∉ es.map (·.1)) (hk : k ∈ M) : GI (addE G r (nm, k)) M (c + 1) L := by
  have disj : ∀ j ∈ M, j ∉ rms G := fun j hj h => (List.nodup_append.mp g.nd).2.2 j h j hj rfl
  refine ⟨by rw [rms_add]; exact g.g0, by rw [rms_add]; exact g.nd, by rw [rms_add]; exact g.lt, fun r' a es h e he => ?_, fun r' a es h => nam_add g fresh h, ?_, fun j hj => ?_⟩
  · rw [rms_add]
    rcases ent_old h he with ⟨es0, h2, he⟩ | ⟨_, rfl⟩
    · exact g.ent _ _ _ h2 e he
    · exact ⟨ok, List.mem_append_right _ hk, fun e => disj _ hk (by show k ∈ _; rw [show k = 0 from e]; exact g.g0)⟩
  · rw [rms_add]
    intro r1 a1 es1 r2 a2 es2 e e' h1 h2 he he' eq hroom
    rcases ent_old h1 he with ⟨es0, h3, he⟩ | ⟨_, rfl⟩
    · rcases ent_old h2 he' with ⟨es0', h4, he'⟩ | ⟨_, rfl⟩
      · exact g.one _ _ _ _ _ _ _ _ h3 h4 he he' eq hroom
      · exact absurd hroom (by rw [eq]; exact disj _ hk)
    · exact absurd hroom (disj _ hk)
  · rw [rms_add] at hj
    exact (g.rch j hj).mono add_le
theorem GI.other (g : GI G M c L) (hr : r ∈ rms G) (ok : entB nm = true) (fresh : ∀ a es, (r, a, es) ∈ G → nm ∉ es.map (·.1)) (hk : k ∉ rms G ++ M) (hL : k < L) : GI (addE G r (nm, k)) (M ++ [k]) (c + 1) L := by
  have kr : k ∉ rms G := fun h => hk (List.mem_append_left _ h)
  refine ⟨by rw [rms_add]; exact g.g0, ?_, fun j hj => ?_, fun r' a es h e he => ?_, fun r' a es h => nam_add g fresh h, ?_, fun j hj => ?_⟩
  · rw [rms_add, ← List.append_assoc]
    refine List.nodup_append.mpr ⟨g.nd, List.nodup_cons.mpr ⟨List.not_mem_nil, List.nodup_nil⟩, fun y hy z hz e => ?_⟩
    rw [List.mem_singleton.mp hz] at e
    exact hk (e ▸ hy)
  · rw [rms_add, ← List.append_assoc] at hj
    rcases List.mem_append.mp hj with h | h
    · exact g.lt j h
    · rw [List.mem_singleton.mp h]; exact hL
  · rw [rms_add, ← List.append_assoc]
    rcases ent_old h he with ⟨es0, h2, he⟩ | ⟨_, rfl⟩
    · obtain ⟨a1, a2, a3⟩ := g.ent _ _ _ h2 e he
      exact ⟨a1, List.mem_append_left _ a2, a3⟩
    · exact ⟨ok, List.mem_append_right _ (List.mem_singleton.mpr rfl), fun e => kr (by rw [show k = 0 from e]; exact g.g0)⟩
  · rw [rms_add]
    intro r1 a1 es1 r2 a2 es2 e e' h1 h2 he he' eq hroom
    rcases ent_old h1 he with ⟨es0, h3, he⟩ | ⟨_, rfl⟩
    · rcases ent_old h2 he' with ⟨es0', h4, he'⟩ | ⟨_, rfl⟩
      · exact g.one _ _ _ _ _ _ _ _ h3 h4 he he' eq hroom
      · exact absurd hroom (by rw [eq]; exact kr)
    · exact absurd hroom kr
  · rw [rms_add, ← List.append_assoc] at hj
    rcases List.mem_append.mp hj with h | h
    · exact (g.rch j h).mono add_le
    · rw [List.mem_singleton.mp h]
      obtain ⟨a, es, hm⟩ := rms_mem.mp hr
      exact .step (e := (nm, k)) ((g.rch r (List.mem_append_left _ hr)).mono add_le) (mem_add.mpr (.inr ⟨rfl, es, hm, rfl⟩)) (List.mem_append_right _ (List.mem_singleton.mpr rfl))
theorem GI.room (g : GI G M c L) (hr : r ∈ rms G) (ok : entB nm = true) (fresh : ∀ a es, (r, a, es) ∈ G → nm ∉ es.map (·.1)) (hk : k ∉ rms G ++ M) (hL : k < L) (b : Addr) : GI (addE G r (nm, k) ++ [(k, b, [])]) M (c + 1) L := by
  have kr : k ∉ rms G := fun h => hk (List.mem_append_left _ h)
  have er : rms (addE G r (nm, k) ++ [(k, b, [])]) = rms G ++ [k] := by
    unfold rms
    rw [List.map_append]
    show rms (addE G r (nm, k)) ++ [k] = _
    rw [rms_add]
    rfl
  have old : ∀ {r' a es e}, (r', a, es) ∈ addE G r (nm, k) ++ [(k, b, [])] → e ∈ es → (r', a, es) ∈ addE G r (nm, k) := by
    intro r' a es e h he
    rcases List.mem_append.mp h with h | h
    · exact h
    · cases List.mem_singleton.mp h
      cases he
  have pm : (rms G ++ [k] ++ M).Perm (rms G ++ M ++ [k]) := by
    rw [List.append_assoc, List.append_assoc]
    exact List.Perm.append_left _ List.perm_append_comm
  have kz : k ≠ 0 := fun e => kr (e ▸ g.g0)
  refine ⟨by rw [er]; exact List.mem_append_left _ g.g0, ?_, fun j hj => ?_, fun r' a es h e he => ?_, fun r' a es h => ?_, ?_, fun j hj => ?_⟩
  · rw [er]
    refine pm.nodup_iff.mpr ?_
    refine List.nodup_append.mpr ⟨g.nd, List.nodup_cons.mpr ⟨List.not_mem_nil, List.nodup_nil⟩, fun y hy z hz e => ?_⟩
    rw [List.mem_singleton.mp hz] at e
    exact hk (e ▸ hy)
  · rw [er] at hj
    rcases List.mem_append.mp (pm.mem_iff.mp hj) with h | h
    · exact g.lt j h
    · rw [List.mem_singleton.mp h]; exact hL
  · rw [er]
    rcases ent_old (old h he) he with ⟨es0, h2, he⟩ | ⟨_, rfl⟩
    · obtain ⟨a1, a2, a3⟩ := g.ent _ _ _ h2 e he
      exact ⟨a1, pm.mem_iff.mpr (List.mem_append_left _ a2), a3⟩
    · exact ⟨ok, pm.mem_iff.mpr (List.mem_append_right _ (List.mem_singleton.mpr rfl)), kz⟩
  · rcases List.mem_append.mp h with h | h
    · exact nam_add g fresh h
    · cases List.mem_singleton.mp h
      exact ⟨List.nodup_nil, Nat.zero_le _⟩
  · rw [er]
    intro r1 a1 es1 r2 a2 es2 e e' h1 h2 he he' eq hroom
    rcases ent_old (old h1 he) he with ⟨es0, h3, he⟩ | ⟨rfl, rfl⟩
    · have me := (g.ent _ _ _ h3 e he).2.1
      have hroom : e.2 ∈ rms G := by
        rcases List.mem_append.mp hroom with h | h
        · exact h
        · rw [List.mem_singleton.mp h] at me
          exact absurd me hk
      rcases ent_old (old h2 he') he' with ⟨es0', h4, he'⟩ | ⟨_, rfl⟩
      · exact g.one _ _ _ _ _ _ _ _ h3 h4 he he' eq hroom
      · rw [eq] at me
        exact absurd me hk
    · rcases ent_old (old h2 he') he' with ⟨es0', h4, he'⟩ | ⟨rfl, rfl⟩
      · have me := (g.ent _ _ _ h4 e' he').2.1
        rw [← eq] at me
        exact absurd me hk
      · exact ⟨rfl, rfl⟩
  · rw [er] at hj
    have le : ∀ r' a es, (r', a, es) ∈ G → ∃ es', (r', a, es') ∈ addE G r (nm, k) ++ [(k, b, [])] ∧ ∀ e ∈ es, e ∈ es' := fun r' a es h => by
      obtain ⟨es', h1, h2⟩ := add_le (x := (nm, k)) (r := r) r' a es h
      exact ⟨es', List.mem_append_left _ h1, h2⟩
    rcases List.mem_append.mp (pm.mem_iff.mp hj) with h | h
    · exact (g.rch j h).mono le
    · rw [List.mem_singleton.mp h]
      obtain ⟨a, es, hm⟩ := rms_mem.mp hr
      exact .step (e := (nm, k)) ((g.rch r (List.mem_append_left _ hr)).mono le) (List.mem_append_left _ (mem_add.mpr (.inr ⟨rfl, es, hm, rfl⟩))) (List.mem_append_right _ (List.mem_singleton.mpr rfl))
theorem GI.mono {c' : Nat} (g : GI G M c L) (h : c ≤ c') : GI G M c' L := ⟨g.g0, g.nd, g.lt, g.ent, fun r a es q => ⟨(g.nam r a es q).1, Nat.le_trans (g.nam r a es q).2 h⟩, g.one, g.rch⟩
end
/-! ### entries in their sequence -/
def entN (e : Str × Nat) : PyData := .tuple [.str e.1, .int e.2]
def srtE (es : List (Str × Nat)) : List (Str × Nat) := es.mergeSort (PySem.W.dataLe false entN)
theorem mem_srtE {es : List (Str × Nat)} {e : Str × Nat} : e ∈ srtE es ↔ e ∈ es := List.mem_mergeSort
theorem len_srtE (es : List (Str × Nat)) : (srtE es).length = es.length := List.length_mergeSort es
theorem srtE_up {es : List (Str × Nat)} (nd : (es.map (·.1)).Nodup) : (srtE es).Pairwise fun a b => tl a.1 < tl b.1 := by
  have h1 : (srtE es).Pairwise fun a b => PySem.W.dataLe false entN a b = true := PySem.W.sort_pairwise (PySem.W.sortLe_total _ false _) es
  have h2 : ((srtE es).map (·.1)).Nodup := ((List.mergeSort_perm es _).map _).nodup_iff.mpr nd
  have h3 : (srtE es).Pairwise fun a b => a.1 ≠ b.1 := List.pairwise_map.mp h2
  refine (List.Pairwise.and h1 h3).imp ?_
  rintro ⟨a, i⟩ ⟨b, j⟩ ⟨h, ne⟩
  have ne : a ≠ b := ne
  rw [PySem.W.dataLe_eq] at h
  have h : (!PySem.W.dataLt (entN (b, j)) (entN (a, i))) = true := h
  unfold entN at h
  rw [PySem.W.dataLt_pair rfl rfl, if_neg (fun e => ne (by rw [beq_iff_eq.mp (show (b == a) = true from e)]))] at h
  have e2 := congrFun (congrFun (PySem.W.dataLe_str (fun x : Str => x)) a) b
  rw [PySem.W.dataLe_eq] at e2
  have e2 : (!PySem.W.dataLt (.str b) (.str a)) = decide (a.cps.toList ≤ b.cps.toList) := e2
  rw [e2] at h
  rcases List.le_iff_lt_or_eq.mp (of_decide_eq_true h) with h | h
  · exact h
  · exact absurd (str_ext h) ne
/-! ### such a store is one -/
theorem wf_of {G : Gh} {O : List (Nat × Nd)} {c L : Nat} {s : Sto} (g : GI G (O.map (·.1)) c L) (hc : c ≤ 1000) (hO : ∀ o ∈ O, (∃ t, o.2 = .file t ∧ textB t = true) ∨ ∃ p, o.2 = .sign p ∧ pathB (.str p) = true)
    (hs : ∀ k nd, s[k]? = some (some nd) ↔ (k, nd) ∈ O ∨ ∃ a es, (k, a, es) ∈ G ∧ nd = .room (srtE es)) (hl : s.length ≤ 60) (hlast : ∃ n, s[s.length - 1]? = some (some n)) : Wf s ∧ ∀ r, (entsAt s r).length ≤ c := by
  have node : ∀ k ∈ rms G ++ O.map (·.1), ∃ n, s[k]? = some (some n) := fun k hk => by
    rcases List.mem_append.mp hk with h | h
    · obtain ⟨a, es, h⟩ := rms_mem.mp h
      exact ⟨_, (hs k _).mpr (.inr ⟨a, es, h, rfl⟩)⟩
    · obtain ⟨⟨k', nd⟩, h2, e⟩ := List.mem_map.mp h
      cases e
      exact ⟨nd, (hs _ _).mpr (.inl h2)⟩
  have nums : ∀ k n, s[k]? = some (some n) → k ∈ rms G ++ O.map (·.1) := fun k n h => by
    rcases (hs k n).mp h with h | ⟨a, es, h, _⟩
    · exact List.mem_append_right _ (List.mem_map.mpr ⟨_, h, rfl⟩)
    · exact List.mem_append_left _ (rms_mem.mpr ⟨a, es, h⟩)
  have rooms : ∀ r es', s[r]? = some (some (.room es')) → ∃ a es, (r, a, es) ∈ G ∧ es' = srtE es := fun r es' h => by
    rcases (hs r _).mp h with h2 | ⟨a, es, h2, e⟩
    · rcases hO _ h2 with ⟨t, e, _⟩ | ⟨t, e, _⟩ <;> cases e
    · cases e
      exact ⟨a, es, h2, rfl⟩
  have ents : ∀ r e, e ∈ entsAt s r → ∃ a es, (r, a, es) ∈ G ∧ e ∈ es := fun r e h => by
    unfold entsAt at h
    split at h
    · rename_i es' hr
      obtain ⟨a, es, h1, rfl⟩ := rooms r es' hr
      exact ⟨a, es, h1, mem_srtE.mp h⟩
    · cases h
  have at_ : ∀ r a es, (r, a, es) ∈ G → entsAt s r = srtE es := fun r a es h => entsAt_room ((hs r _).mpr (.inr ⟨a, es, h, rfl⟩))
  have hfew : ∀ r, (entsAt s r).length ≤ c := fun r => by
    unfold entsAt
    split
    · rename_i es' hr
      obtain ⟨a, es, h1, rfl⟩ := rooms r es' hr
      rw [len_srtE]
      exact (g.nam _ _ _ h1).2
    · exact Nat.zero_le _
  obtain ⟨a0, es0, h0⟩ := rms_mem.mp g.g0
  have root : s[0]? = some (some (.room (srtE es0))) := (hs 0 _).mpr (.inr ⟨a0, es0, h0, rfl⟩)
  refine ⟨⟨?_, hl, hlast, ⟨_, root⟩, fun n hn => ?_, fun r e he => ?_, fun r r' e e' he he' eq hroom => ?_, fun k n hk => ?_, fun r => Nat.le_trans (hfew r) hc⟩, hfew⟩
  · have := (List.getElem?_eq_some_iff.mp root).1
    omega
  · obtain ⟨k, hk⟩ := List.mem_iff_getElem?.mp hn
    rcases (hs k n).mp hk with h | ⟨a, es, h, rfl⟩
    · rcases hO _ h with ⟨t, e, q⟩ | ⟨t, e, q⟩
      · have e : n = .file t := e
        subst e
        exact q
      · have e : n = .sign t := e
        subst e
        exact q
    · refine ⟨fun e he => ?_, srtE_up (g.nam _ _ _ h).1⟩
      obtain ⟨a1, a2, a3⟩ := g.ent _ _ _ h e (mem_srtE.mp he)
      obtain ⟨n, hn⟩ := node _ a2
      exact ⟨a1, (List.getElem?_eq_some_iff.mp hn).1⟩
  · obtain ⟨a, es, h, he⟩ := ents r e he
    exact node _ (g.ent _ _ _ h e he).2.1
  · obtain ⟨a, es, h, he⟩ := ents r e he
    obtain ⟨a', es', h', he'⟩ := ents r' e' he'
    obtain ⟨esx, hx⟩ := hroom
    obtain ⟨ax, ex, hgx, _⟩ := rooms _ _ hx
    obtain ⟨q1, q2⟩ := g.one _ _ _ _ _ _ _ _ h h' he he' eq (rms_mem.mpr ⟨ax, ex, hgx⟩)
    exact ⟨(g.ent _ _ _ h e he).2.2, q1, q2⟩
  · have gr := g.rch k (nums k n hk)
    clear hk
    induction gr with
    | root => exact .root
    | @step r a es e _ h1 h2 ih =>
      refine .step ih ?_
      rw [at_ _ _ _ h1]
      exact mem_srtE.mpr h2

/-! ### places, the store itself -/
abbrev nv (n : Nat) : V := .int (n : Int)
theorem rd_lstRg2 {ta tb : TE} {σ : St} {H : Hp} {Q : VK} (q : ta σ H fun x H1 => tb σ H1 fun y H2 => ∃ i j, x = .int i ∧ y = .int j ∧ RgOk i j ∧ ∀ q', H2 q' = none → Q (.ref q') (upd H2 q' (.lst (rgV i j)))) : tLstRg (tRg2 ta tb) σ H Q := q
theorem rd_dNotIn {ty td : TE} {σ : St} {H : Hp} {Q : VK} (q : ty σ H fun y H1 => td σ H1 fun x H2 => ∃ a o, x = .ref a ∧ DGet H2 a y o ∧ Q (.bl (!o.isSome)) H2) : tDNotIn ty td σ H Q := q
theorem rd_dGet {ty td : TE} {σ : St} {H : Hp} {Q : VK} (q : td σ H fun x H1 => ty σ H1 fun y H2 => ∃ a v, x = .ref a ∧ DGet H2 a y (some v) ∧ Q v H2) : tDGet td ty σ H Q := q
theorem rg_nats (n : Nat) : rgV 1 ((n : Int) + 1) = (List.range n).map fun i => nv (i + 1) := by
  unfold rgV
  rw [show ((n : Int) + 1 - 1).toNat = n by omega]
  refine List.map_congr_left fun i _ => ?_
  show V.int (1 + (i : Int)) = V.int ((i + 1 : Nat) : Int)
  congr 1
  omega
def Φ_law_places (K : PySem.W.Frag) (vd vm : V) (H : Hp) (Q : VK) : Prop := ∃ (d : Addr) (n m : Nat), vd = .ref d ∧ vm = .int n ∧ n ≤ 60 ∧ Dk d m H ∧ m + 70 ≤ LIM ∧
  ∀ (r : Addr) (ks : List Nat) (H' : Hp), H r = none → H' r = some (.lst (ks.map nv)) → r ≠ d → ks.length = n → ks.Nodup → (∀ k ∈ ks, 1 ≤ k ∧ k ≤ n + 2) → Dk d (m + 70) H' → Kp d H H' → Q (.ref r) H'
theorem ok_law_places (T : Txt P K mg) {f : Addr} {fd : FuncData} (F : Fun K "_law_places" "_law_places" s_law_places f fd) : Keeps P w K mg base CX0 3 f fd ["deck", "many"] (sp2 (Φ_law_places K)) := by
  have c_law_draw := cal (P := P) (w := w) (base := base) T.d_law_draw fun F => ok_law_draw T F
  have c_law_mixed := cal (P := P) (w := w) (base := base) T.d_law_mixed fun F => ok_law_mixed T F
  refine keeps0_of F sc_law_places (fun vs H Q E h => ?_) (fun cdv A outer s H vs Q E hr h => ?_)
  · obtain ⟨_, _, rfl, _⟩ := h
    rfl
  obtain ⟨v_deck, v_many, rfl, h⟩ := h
  have hu := hr.hu
  refine ⟨_, (pss_cons (ps_set (i := 2) sc_law_places.nd rfl (by first | exact Or.inl rfl | exact Or.inr rfl) (pe_op (oAdd (K := K)) (pv 1) (pe_cal c_law_draw (hr.mono (by decide)) (by rfl) pass0 (pa_cons (pv 0) (pa_cons pe_int pa_nil)))))
      (pss_one (ps_ret (pe_slice (sX (K := K)) (pe_cal c_law_mixed (hr.mono (by decide)) (by rfl) pass0 (pa_cons (pv 0) (pa_cons (pe_listRg rfl (by rfl) T.b_list (prg_2 (by rfl) T.b_range pe_int (pe_op (oAdd (K := K)) (pv 2) pe_int))) pa_nil))) po_none (po_some (pv 1)))))), ?_⟩
  rw [show start ["deck", "many", "last"] [v_deck, v_many] = [some v_deck, some v_many, none] from rfl]
  try dsimp only [cxOf, Cx.nox, Cx.wish]
  obtain ⟨d, n, m, rfl, rfl, hn, hd, hm, q⟩ := h
  walk_at "rd"
  refine use_draw hd (by omega) (by omega) (by omega) fun v H1 v0 v1 d1 k1 => ?_
  obtain ⟨v, rfl⟩ : ∃ k : Nat, v = (k : Int) := ⟨v.toNat, by omega⟩
  walk_at "rd"
  refine rd_lstRg2 ?_
  walk_at "rd"
  refine ⟨1, (n : Int) + v + 1, rfl, rfl, RgOk.of_le (by omega) (by omega) (by omega) (by omega), fun p hp => ?_⟩
  rw [show (n : Int) + (v : Int) + 1 = ((n + v : Nat) : Int) + 1 by omega, rg_nats]
  have k2 := k1.new (o := .lst ((List.range (n + v)).map fun i => nv (i + 1))) hp
  walk_at "rd"
  refine ⟨d, p, Nat, List.range (n + v), fun i => nv (i + 1), m + 1, rfl, rfl, upd_same, (d1.ne hp).symm, by rw [List.length_range]; omega, d1.new hp, by rw [List.length_range]; omega, fun r bs H2 hr pm hr2 d2 k3 => ?_⟩
  rw [List.length_range] at d2
  have lb := pm.length_eq
  rw [List.length_range] at lb
  walk_at "rd"
  refine rd_slL (SqL.of hr2) fun l hl => ?_
  rw [cutV_take]
  have nd : (bs.map (· + 1)).Nodup := (pm.nodup_iff.mpr List.nodup_range).map _ fun a b e h => e (by omega)
  have lH : H l = none := (k2.trans k3).free (d2.ne hl).symm hl
  refine q l ((bs.take n).map (· + 1)) _ lH (by rw [upd_same, ← List.map_take, List.map_map]; rfl) (d2.ne hl).symm (by rw [List.length_map, List.length_take]; omega) ?_ (fun k hk => ?_) ((d2.new hl).mono (by omega)) ((k2.trans k3).new hl)
  · exact List.Nodup.sublist ((List.take_sublist n bs).map _) nd
  · obtain ⟨j, hj, rfl⟩ := List.mem_map.mp hk
    have := List.mem_range.mp (pm.mem_iff.mp (List.mem_of_mem_take hj))
    omega
def kvN (e : Str × Nat) : Key × V := (Sum.inr e.1, nv e.2)
def kvG (g : Nat × Addr × List (Str × Nat)) : Key × V := (Sum.inl (g.1 : Int), V.ref g.2.1)
theorem Kp.ty {d : Addr} {m : Nat} {H H' : Hp} (k : Kp d H H') (h : Dk d m H) : Ty H H' := by
  obtain ⟨_, _, _, hd, _⟩ := h
  exact ⟨fun a xs e => k a _ (fun q => by rw [q, hd] at e; cases e) e, fun a o xs e => k a _ (fun q => by rw [q, hd] at e; cases e) e⟩
/-- what stands while a store is drawn -/
structure SS (d : Addr) (H0 : Hp) (u nA rA D oA : Addr) (ks R M : List Nat) (G : Gh) (s : Sto) (H : Hp) : Prop where
  kp : Kp d H0 H
  hu : H u = some (.lst (ks.map nv))
  hn : ∃ xs, H nA = some (.lst xs) ∧ Paired (NdAt H) xs s
  hr : H rA = some (.lst (R.map nv))
  ho : H oA = some (.lst (M.map nv))
  hD : H D = some (.dK (G.map kvG))
  hg : ∀ r a es, (r, a, es) ∈ G → H a = some (.dK (es.map kvN))
  ga : (G.map (·.2.1)).Nodup
  Da : D ∉ G.map (·.2.1)
  df : [u, nA, rA, oA].Nodup
  nw : ∀ a ∈ [u, nA, rA, oA, D] ++ G.map (·.2.1), H0 a = none ∧ a ≠ d
section
variable {d : Addr} {H0 H H' : Hp} {u nA rA D oA : Addr} {ks R M : List Nat} {G : Gh} {s : Sto}
theorem SS.mem_a {r : Nat} {a : Addr} {es : List (Str × Nat)} (h : (r, a, es) ∈ G) : a ∈ G.map (·.2.1) := List.mem_map.mpr ⟨_, h, rfl⟩
theorem SS.step (h : SS d H0 u nA rA D oA ks R M G s H) (k : ∀ a ∈ [u, nA, rA, oA, D] ++ G.map (·.2.1), ∀ o, H a = some o → H' a = some o) (kp : Kp d H0 H') (ty : Ty H H') : SS d H0 u nA rA D oA ks R M G s H' where
  kp := kp
  hu := k u (by simp) _ h.hu
  hn := by
    obtain ⟨xs, h1, h2⟩ := h.hn
    exact ⟨xs, k nA (by simp) _ h1, pd_mono (fun _ _ q => NdAt.up q ty) h2⟩
  hr := k rA (by simp) _ h.hr
  ho := k oA (by simp) _ h.ho
  hD := k D (by simp) _ h.hD
  hg := fun r a es q => k a (List.mem_append_right _ (SS.mem_a q)) _ (h.hg r a es q)
  ga := h.ga
  Da := h.Da
  df := h.df
  nw := h.nw
theorem SS.draw {m : Nat} (h : SS d H0 u nA rA D oA ks R M G s H) (dk : Dk d m H) (k : Kp d H H') : SS d H0 u nA rA D oA ks R M G s H' :=
  h.step (fun a ha o e => k a o (h.nw a ha).2 e) (h.kp.trans k) (k.ty dk)
theorem SS.same (h : SS d H0 u nA rA D oA ks R M G s H) (k : Same H H') : SS d H0 u nA rA D oA ks R M G s H' :=
  h.step (fun a ha o e => k a o e) (h.kp.trans (Kp.of k)) (Ty.of k)
theorem SS.D_ne (h : SS d H0 u nA rA D oA ks R M G s H) {a : Addr} {xs : List V} (e : H a = some (.lst xs)) : a ≠ D := fun q => by
  rw [q, h.hD] at e
  cases e
theorem SS.g_ne (h : SS d H0 u nA rA D oA ks R M G s H) {a : Addr} {xs : List V} (e : H a = some (.lst xs)) {r : Nat} {b : Addr} {es : List (Str × Nat)} (hb : (r, b, es) ∈ G) : b ≠ a := fun q => by
  rw [← q, h.hg _ _ _ hb] at e
  cases e
theorem SS.app_r (h : SS d H0 u nA rA D oA ks R M G s H) (k : Nat) : SS d H0 u nA rA D oA ks (R ++ [k]) M G s (upd H rA (.lst ((R ++ [k]).map nv))) := by
  have df := h.df
  simp only [List.nodup_cons, List.mem_cons, List.not_mem_nil, or_false, not_or, List.nodup_nil, and_true] at df
  obtain ⟨⟨a1, a2, a3⟩, ⟨b1, b2⟩, c1, _⟩ := df
  refine ⟨h.kp.put (h.nw rA (by simp)).1, by rw [upd_ne a2]; exact h.hu, ?_, upd_same, by rw [upd_ne (fun e => c1 e.symm)]; exact h.ho, by rw [upd_ne (h.D_ne h.hr).symm]; exact h.hD, fun r a es q => by rw [upd_ne (h.g_ne h.hr q)]; exact h.hg r a es q, h.ga, h.Da, h.df, h.nw⟩
  obtain ⟨xs, h1, h2⟩ := h.hn
  exact ⟨xs, by rw [upd_ne b1]; exact h1, pd_mono (fun _ _ q => NdAt.up q ((Ty.refl H).lst h.hr)) h2⟩
theorem SS.app_o (h : SS d H0 u nA rA D oA ks R M G s H) (k : Nat) : SS d H0 u nA rA D oA ks R (M ++ [k]) G s (upd H oA (.lst ((M ++ [k]).map nv))) := by
  have df := h.df
  simp only [List.nodup_cons, List.mem_cons, List.not_mem_nil, or_false, not_or, List.nodup_nil, and_true] at df
  obtain ⟨⟨a1, a2, a3⟩, ⟨b1, b2⟩, c1, _⟩ := df
  refine ⟨h.kp.put (h.nw oA (by simp)).1, by rw [upd_ne a3]; exact h.hu, ?_, by rw [upd_ne c1]; exact h.hr, upd_same, by rw [upd_ne (h.D_ne h.ho).symm]; exact h.hD, fun r a es q => by rw [upd_ne (h.g_ne h.ho q)]; exact h.hg r a es q, h.ga, h.Da, h.df, h.nw⟩
  obtain ⟨xs, h1, h2⟩ := h.hn
  exact ⟨xs, by rw [upd_ne b2]; exact h1, pd_mono (fun _ _ q => NdAt.up q ((Ty.refl H).lst h.ho)) h2⟩
/-- nodes[k] = x -/
theorem SS.set_n (h : SS d H0 u nA rA D oA ks R M G s H) {xs : List V} (hx : H nA = some (.lst xs)) (k : Nat) {x : V} {nd : Option Nd} (at_ : NdAt H x nd) : SS d H0 u nA rA D oA ks R M G (s.set k nd) (upd H nA (.lst (xs.set k x))) := by
  have df := h.df
  simp only [List.nodup_cons, List.mem_cons, List.not_mem_nil, or_false, not_or, List.nodup_nil, and_true] at df
  obtain ⟨⟨a1, a2, a3⟩, ⟨b1, b2⟩, c1, _⟩ := df
  refine ⟨h.kp.put (h.nw nA (by simp)).1, by rw [upd_ne a1]; exact h.hu, ?_, by rw [upd_ne (fun e => b1 e.symm)]; exact h.hr, by rw [upd_ne (fun e => b2 e.symm)]; exact h.ho, by rw [upd_ne (h.D_ne hx).symm]; exact h.hD, fun r a es q => by rw [upd_ne (h.g_ne hx q)]; exact h.hg r a es q, h.ga, h.Da, h.df, h.nw⟩
  obtain ⟨xs', h1, h2⟩ := h.hn
  rw [hx] at h1
  cases h1
  exact ⟨_, upd_same, pd_set k (pd_mono (fun _ _ q => NdAt.up q ((Ty.refl H).lst hx)) h2) (at_.up ((Ty.refl H).lst hx))⟩
theorem SS.pop_n (h : SS d H0 u nA rA D oA ks R M G s H) {xs : List V} {s' : Sto} (hx : ∃ ys, H nA = some (.lst ys)) (hp : Paired (NdAt H) xs s') : SS d H0 u nA rA D oA ks R M G s' (upd H nA (.lst xs)) := by
  have df := h.df
  simp only [List.nodup_cons, List.mem_cons, List.not_mem_nil, or_false, not_or, List.nodup_nil, and_true] at df
  obtain ⟨⟨a1, a2, a3⟩, ⟨b1, b2⟩, c1, _⟩ := df
  obtain ⟨ys, hy⟩ := hx
  exact ⟨h.kp.put (h.nw nA (by simp)).1, by rw [upd_ne a1]; exact h.hu, ⟨xs, upd_same, pd_mono (fun _ _ q => NdAt.up q ((Ty.refl H).lst hy)) hp⟩, by rw [upd_ne (fun e => b1 e.symm)]; exact h.hr, by rw [upd_ne (fun e => b2 e.symm)]; exact h.ho, by rw [upd_ne (h.D_ne hy).symm]; exact h.hD, fun r a es q => by rw [upd_ne (h.g_ne hy q)]; exact h.hg r a es q, h.ga, h.Da, h.df, h.nw⟩
theorem kvG_add {r : Nat} {x : Str × Nat} : (addE G r x).map kvG = G.map kvG := by
  unfold addE
  rw [List.map_map]
  refine List.map_congr_left fun g _ => ?_
  show kvG (if g.1 = r then (g.1, g.2.1, g.2.2 ++ [x]) else g) = kvG g
  split <;> rfl
theorem adr_add {r : Nat} {x : Str × Nat} : (addE G r x).map (·.2.1) = G.map (·.2.1) := by
  unfold addE
  rw [List.map_map]
  refine List.map_congr_left fun g _ => ?_
  show (if g.1 = r then (g.1, g.2.1, g.2.2 ++ [x]) else g).2.1 = g.2.1
  split <;> rfl
/-- one address, one room -/
theorem adr_inj : ∀ {G : Gh}, (G.map (·.2.1)).Nodup → ∀ {r r' : Nat} {a : Addr} {es es' : List (Str × Nat)}, (r, a, es) ∈ G → (r', a, es') ∈ G → r = r' ∧ es = es'
  | [], _, _, _, _, _, _, h, _ => nomatch h
  | g :: G, nd, r, r', a, es, es', h, h' => by
    rw [List.map_cons, List.nodup_cons] at nd
    rcases List.mem_cons.mp h with e | h
    · rcases List.mem_cons.mp h' with e' | h'
      · have := e.trans e'.symm
        cases this
        exact ⟨rfl, rfl⟩
      · rw [← e] at nd
        exact absurd (SS.mem_a h') nd.1
    · rcases List.mem_cons.mp h' with e' | h'
      · rw [← e'] at nd
        exact absurd (SS.mem_a h) nd.1
      · exact adr_inj nd.2 h h'
theorem num_inj : ∀ {G : Gh}, (rms G).Nodup → ∀ {r : Nat} {a a' : Addr} {es es' : List (Str × Nat)}, (r, a, es) ∈ G → (r, a', es') ∈ G → a = a' ∧ es = es'
  | [], _, _, _, _, _, _, h, _ => nomatch h
  | g :: G, nd, r, a, a', es, es', h, h' => by
    have nd : g.1 ∉ rms G ∧ (rms G).Nodup := List.nodup_cons.mp nd
    rcases List.mem_cons.mp h with e | h
    · rcases List.mem_cons.mp h' with e' | h'
      · have := e.trans e'.symm
        cases this
        exact ⟨rfl, rfl⟩
      · rw [← e] at nd
        exact absurd (rms_mem.mpr ⟨_, _, h'⟩) nd.1
    · rcases List.mem_cons.mp h' with e' | h'
      · rw [← e'] at nd
        exact absurd (rms_mem.mpr ⟨_, _, h⟩) nd.1
      · exact num_inj nd.2 h h'
/-- entries[r][x.1] = x.2 -/
theorem SS.put_e (h : SS d H0 u nA rA D oA ks R M G s H) (nd : (rms G).Nodup) {r : Nat} {a : Addr} {es : List (Str × Nat)} (hm : (r, a, es) ∈ G) (x : Str × Nat) : SS d H0 u nA rA D oA ks R M (addE G r x) s (upd H a (.dK ((es ++ [x]).map kvN))) := by
  have ha := h.hg _ _ _ hm
  have ne : ∀ {b : Addr} {xs : List V}, H b = some (.lst xs) → b ≠ a := fun e q => h.g_ne e hm q.symm
  have nD : D ≠ a := fun e => h.Da (e ▸ SS.mem_a hm)
  refine ⟨h.kp.put (h.nw a (List.mem_append_right _ (SS.mem_a hm))).1, by rw [upd_ne (ne h.hu)]; exact h.hu, ?_, by rw [upd_ne (ne h.hr)]; exact h.hr, by rw [upd_ne (ne h.ho)]; exact h.ho, by rw [upd_ne nD, kvG_add]; exact h.hD, fun r' b es' q => ?_, by rw [adr_add]; exact h.ga, by rw [adr_add]; exact h.Da, h.df, by rw [adr_add]; exact h.nw⟩
  · obtain ⟨xs, h1, h2⟩ := h.hn
    exact ⟨xs, by rw [upd_ne (ne h1)]; exact h1, pd_mono (fun _ _ q => NdAt.up q ((Ty.refl H).dct ha)) h2⟩
  · rcases mem_add.mp q with ⟨q1, q2⟩ | ⟨q1, es0, q2, rfl⟩
    · have : b ≠ a := fun e => q1 (adr_inj h.ga (e ▸ q2) hm).1
      rw [upd_ne this]
      exact h.hg _ _ _ q2
    · subst q1
      obtain ⟨e1, e2⟩ := num_inj nd q2 hm
      subst e1 e2
      exact upd_same
/-- entries[k] = {} -/
theorem SS.put_D (h : SS d H0 u nA rA D oA ks R M G s H) {m : Nat} (dk : Dk d m H) (k : Nat) {b : Addr} (hb : H b = none) : SS d H0 u nA rA D oA ks R M (G ++ [(k, b, [])]) s (upd (upd H b (.dK [])) D (.dK ((G ++ [(k, b, [])]).map kvG))) := by
  have h1 := h.same ((Same.refl H).new (o := .dK []) hb)
  have bD : b ≠ D := fun e => by rw [e, h.hD] at hb; cases hb
  have bG : b ∉ G.map (·.2.1) := fun e => by
    obtain ⟨⟨r, a, es⟩, hm, rfl⟩ := List.mem_map.mp e
    have hb : H a = none := hb
    rw [h.hg _ _ _ hm] at hb
    cases hb
  have ne : ∀ {c : Addr} {xs : List V}, upd H b (.dK []) c = some (.lst xs) → c ≠ D := fun e => h1.D_ne e
  refine ⟨h1.kp.put (h.nw D (by simp)).1, by rw [upd_ne (ne h1.hu)]; exact h1.hu, ?_, by rw [upd_ne (ne h1.hr)]; exact h1.hr, by rw [upd_ne (ne h1.ho)]; exact h1.ho, upd_same, fun r' a es' q => ?_, ?_, ?_, h.df, ?_⟩
  · obtain ⟨xs, q1, q2⟩ := h1.hn
    exact ⟨xs, by rw [upd_ne (ne q1)]; exact q1, pd_mono (fun _ _ q => NdAt.up q ((Ty.refl _).dct h1.hD)) q2⟩
  · rcases List.mem_append.mp q with q | q
    · have : a ≠ D := fun e => h.Da (e ▸ SS.mem_a q)
      rw [upd_ne this]
      exact h1.hg _ _ _ q
    · cases List.mem_singleton.mp q
      rw [upd_ne bD]
      exact upd_same
  · rw [List.map_append]
    refine List.nodup_append.mpr ⟨h.ga, List.nodup_cons.mpr ⟨List.not_mem_nil, List.nodup_nil⟩, fun y hy z hz e => ?_⟩
    have hz : z ∈ [b] := hz
    rw [List.mem_singleton.mp hz] at e
    exact bG (e ▸ hy)
  · rw [List.map_append]
    intro e
    rcases List.mem_append.mp e with e | e
    · exact h.Da e
    · exact bD (List.mem_singleton.mp e).symm
  · intro a ha
    rw [List.map_append, ← List.append_assoc] at ha
    rcases List.mem_append.mp ha with ha | ha
    · exact h.nw a ha
    · have ha : a ∈ [b] := ha
      rw [List.mem_singleton.mp ha]
      exact ⟨h.kp.free (dk.ne hb).symm hb, (dk.ne hb).symm⟩
theorem val_G : ∀ {G : Gh}, (rms G).Nodup → ∀ {r : Nat} {a : Addr} {es : List (Str × Nat)}, (r, a, es) ∈ G → valV (G.map kvG) (Sum.inl (r : Int)) = some (.ref a)
  | [], _, _, _, _, h => nomatch h
  | g :: G, nd, r, a, es, h => by
    have nd : g.1 ∉ rms G ∧ (rms G).Nodup := List.nodup_cons.mp nd
    rw [List.map_cons]
    rcases List.mem_cons.mp h with e | h
    · rw [← e]
      exact valV_pos rfl
    · have ne : (kvG g).1 ≠ Sum.inl (r : Int) := fun e => by
        have e : (g.1 : Int) = r := Sum.inl.inj e
        have : g.1 = r := by omega
        exact nd.1 (this ▸ rms_mem.mpr ⟨a, es, h⟩)
      have e : valV (kvG g :: G.map kvG) (Sum.inl (r : Int)) = valV (G.map kvG) (Sum.inl (r : Int)) := by
        unfold valV
        rw [List.find?_cons_of_neg (by simpa using ne)]
      rw [e]
      exact val_G nd.2 h
theorem val_e {es : List (Str × Nat)} {nm : Str} : (valV (es.map kvN) (Sum.inr nm)).isSome = decide (nm ∈ es.map (·.1)) := by
  rw [Bool.eq_iff_iff, val_some, decide_eq_true_eq, List.map_map, List.mem_map, List.mem_map]
  constructor
  · rintro ⟨e, h, q⟩
    exact ⟨e, h, Sum.inr.inj q⟩
  · rintro ⟨e, h, q⟩
    exact ⟨e, h, congrArg Sum.inr q⟩
theorem putK_fresh {κ : Type} [DecidableEq κ] {es : List (κ × V)} {k : κ} {v : V} (h : k ∉ es.map (·.1)) : putK es k v = es ++ [(k, v)] := by
  unfold putK
  rw [if_neg]
  intro q
  obtain ⟨e, he, q⟩ := List.any_eq_true.mp q
  exact h (by rw [← of_decide_eq_true q]; exact List.mem_map_of_mem he)
theorem flat_nonS (n : Nat) : (List.replicate n [V.non]).flatten = List.replicate n V.non := by
  induction n with
  | zero => rfl
  | succ n ih => rw [List.replicate_succ, List.flatten_cons, ih, List.replicate_succ]; rfl
end
theorem rd_max1 {K : PySem.W.Frag} {H : Hp} {Q : VK} {p : Addr} {ns : List Int} (h : H p = some (.lst (ns.map V.int))) (hn : 0 < ns.length) (q : ∀ m, m ∈ ns → (∀ y, y ∈ ns → y ≤ m) → Q (.int m) H) : rMax K [V.ref p] H Q := ⟨p, ns, rfl, SqL.of h, hn, q⟩
theorem rd_dispD {σ : St} {H : Hp} {Q : VK} {n : Int} (q : ∀ p, H p = none → ∀ b, upd H p (.dK []) b = none → Q (.ref p) (upd (upd (upd H p (.dK [])) b (.dK [])) p (.dK [(Sum.inl n, .ref b)]))) : tDisp [(tC (V.int n), tDNewK)] σ H Q :=
  fun p hp b hb => ⟨by rw [upd_ne (fun e => by rw [← e, upd_same] at hb; cases hb)]; exact upd_same, [(Sum.inl n, .ref b)], rfl, (by show 1 ≤ 15; omega), q p hp b hb⟩
theorem pd_entries {H : Hp} : ∀ {ps : List (Addr × Str × Int)} {L : List (Str × Nat)}, ps.map (·.2) = L.map (fun e => (e.1, (e.2 : Int))) → (∀ z ∈ ps, H z.1 = some (.tup [.str z.2.1, .int z.2.2])) → Paired (pairV H) (ps.map fun z => V.ref z.1) L
  | [], [], _, _ => .nil
  | [], _ :: _, e, _ => by simp at e
  | _ :: _, [], e, _ => by simp at e
  | z :: ps, x :: L, e, h => by
    rw [List.map_cons, List.map_cons] at e
    obtain ⟨e1, e2⟩ := List.cons.inj e
    refine .cons ⟨z.1, rfl, Rt.of ?_⟩ (pd_entries e2 fun z' hz => h z' (List.mem_cons_of_mem _ hz))
    have := h z List.mem_cons_self
    have e1 : z.2 = (x.1, (x.2 : Int)) := e1
    rw [e1] at this
    exact this
theorem srt_ints (es : List (Str × Nat)) : (es.map fun e => (e.1, (e.2 : Int))).mergeSort (PySem.W.dataLe false entD) = (srtE es).map fun e => (e.1, (e.2 : Int)) := by
  unfold srtE
  rw [List.map_mergeSort]
  intro a _ b _
  rfl
theorem ss_start {d : Addr} {H0 H3 : Hp} {u nA rA D b0 oA : Addr} {ks : List Nat} {L m : Nat} (kp : Kp d H0 H3) (dk : Dk d m H3) (ud : u ≠ d) (uH : H0 u = none) (hu : H3 u = some (.lst (ks.map nv))) (nd : nA ≠ d) (nH : H0 nA = none) (hn : H3 nA = some (.lst (List.replicate L V.non))) (nu : u ≠ nA)
    (h1 : H3 rA = none) (h2 : upd H3 rA (.lst [nv 0]) D = none) (h3 : upd (upd H3 rA (.lst [nv 0])) D (.dK []) b0 = none)
    (h4 : upd (upd (upd (upd H3 rA (.lst [nv 0])) D (.dK [])) b0 (.dK [])) D (.dK [(Sum.inl 0, .ref b0)]) oA = none) :
    SS d H0 u nA rA D oA ks [0] [] [(0, b0, [])] (List.replicate L none) (upd (upd (upd (upd (upd H3 rA (.lst [nv 0])) D (.dK [])) b0 (.dK [])) D (.dK [(Sum.inl 0, .ref b0)])) oA (.lst [])) ∧
    Dk d m (upd (upd (upd (upd (upd H3 rA (.lst [nv 0])) D (.dK [])) b0 (.dK [])) D (.dK [(Sum.inl 0, .ref b0)])) oA (.lst [])) := by
  have e1 := (Same.refl H3).new (o := .lst [nv 0]) h1
  have e2 := e1.new (o := .dK []) h2
  have e3 := e2.new (o := .dK []) h3
  have D3 : H3 D = none := Sub.of e1 D h2
  have e4 := e3.put (o := .dK [(Sum.inl 0, .ref b0)]) D3
  have e5 := e4.new (o := .lst []) h4
  have b3 : H3 b0 = none := Sub.of e2 b0 h3
  have o3 : H3 oA = none := Sub.of e4 oA h4
  have rD : D ≠ rA := fun e => by rw [e, upd_same] at h2; cases h2
  have bD : b0 ≠ D := fun e => by rw [e, upd_same] at h3; cases h3
  have br : b0 ≠ rA := fun e => by rw [e, upd_ne rD.symm, upd_same] at h3; cases h3
  have oD : oA ≠ D := fun e => by rw [e, upd_same] at h4; cases h4
  have ob : oA ≠ b0 := fun e => by rw [e, upd_ne bD, upd_same] at h4; cases h4
  have or_ : oA ≠ rA := fun e => by rw [e, upd_ne rD.symm, upd_ne br.symm, upd_ne rD.symm, upd_same] at h4; cases h4
  have ne3 : ∀ {a x : Addr} {o : HO}, H3 a = some o → H3 x = none → a ≠ x := fun h h' e => by rw [e, h'] at h; cases h
  refine ⟨⟨kp.trans (Kp.of e5), e5 _ _ hu, ⟨_, e5 _ _ hn, pd_rep (show NdAt _ V.non none from rfl) L⟩, ?_, upd_same, ?_, ?_, List.nodup_cons.mpr ⟨List.not_mem_nil, List.nodup_nil⟩, ?_, ?_, ?_⟩, dk.same e5⟩
  · rw [upd_ne or_.symm, upd_ne rD.symm, upd_ne br.symm, upd_ne rD.symm, upd_same]
    rfl
  · rw [upd_ne oD.symm, upd_same]
    rfl
  · intro r a es h
    cases List.mem_singleton.mp h
    rw [upd_ne ob.symm, upd_ne bD, upd_same]
    rfl
  · intro h
    have h : D ∈ [b0] := h
    exact bD (List.mem_singleton.mp h).symm
  · simp only [List.nodup_cons, List.mem_cons, List.not_mem_nil, or_false, not_or, List.nodup_nil, and_true]
    exact ⟨⟨nu, ne3 hu h1, ne3 hu o3⟩, ⟨ne3 hn h1, ne3 hn o3⟩, or_.symm, fun h => h⟩
  · have fr : ∀ x, H3 x = none → H0 x = none ∧ x ≠ d := fun x hx => ⟨kp.free (dk.ne hx).symm hx, (dk.ne hx).symm⟩
    intro a ha
    have ha : a ∈ [u, nA, rA, oA, D, b0] := ha
    simp only [List.mem_cons, List.not_mem_nil, or_false] at ha
    rcases ha with rfl | rfl | rfl | rfl | rfl | rfl
    · exact ⟨uH, ud⟩
    · exact ⟨nH, nd⟩
    · exact fr _ h1
    · exact fr _ o3
    · exact fr _ D3
    · exact fr _ b3
def NAMES : List Str := ["a", "b", "f", "s", "x.y", "-", "_1", ".h", "zz-9", "abcdefghijkl"]
def Φ_law_store (K : PySem.W.Frag) (vd vm : V) (H : Hp) (Q : VK) : Prop := ∃ (d : Addr) (n m : Nat), vd = .ref d ∧ vm = .int n ∧ n ≤ 15 ∧ Dk d m H ∧ m + 1000 ≤ LIM ∧
  ∀ (v : V) (s : Sto) (H' : Hp), StAt H' v s → Wf s → s.length ≤ n + 3 → (∀ r, (entsAt s r).length ≤ n + 2) → Dk d (m + 1000) H' → Kp d H H' → Q v H'
theorem ok_law_store (T : Txt P K mg) {f : Addr} {fd : FuncData} (F : Fun K "_law_store" "_law_store" s_law_store f fd) : Keeps P w K mg base CX0 4 f fd ["deck", "most"] (sp2 (Φ_law_store K)) := by
  have c_law_draw := cal (P := P) (w := w) (base := base) T.d_law_draw fun F => ok_law_draw T F
  have c_law_places := cal (P := P) (w := w) (base := base) T.d_law_places fun F => ok_law_places T F
  have c_law_one_of := cal (P := P) (w := w) (base := base) T.d_law_one_of fun F => ok_law_one_of T F
  have c_law_name := cal (P := P) (w := w) (base := base) T.d_law_name fun F => ok_law_name T F
  have c_law_text := cal (P := P) (w := w) (base := base) T.d_law_text fun F => ok_law_text T F
  have c_law_path := cal (P := P) (w := w) (base := base) T.d_law_path fun F => ok_law_path T F
  refine keeps0_of F sc_law_store (fun vs H Q E h => ?_) (fun cdv A outer s H vs Q E hr h => ?_)
  · obtain ⟨_, _, rfl, _⟩ := h
    rfl
  obtain ⟨v_deck, v_most, rfl, h⟩ := h
  have hu := hr.hu
  refine ⟨_, (pss_cons (ps_set (i := 2) sc_law_store.nd rfl (by first | exact Or.inl rfl | exact Or.inr rfl) (pe_cal c_law_draw (hr.mono (by decide)) (by rfl) pass0 (pa_cons (pv 0) (pa_cons (pe_op (oAdd (K := K)) (pv 1) pe_int) pa_nil))))
      (pss_cons (ps_set (i := 3) sc_law_store.nd rfl (by first | exact Or.inl rfl | exact Or.inr rfl) (pe_cal c_law_places (hr.mono (by decide)) (by rfl) pass0 (pa_cons (pv 0) (pa_cons (pv 2) pa_nil))))
      (pss_cons (ps_set (i := 4) sc_law_store.nd rfl (by first | exact Or.inl rfl | exact Or.inr rfl) (pe_op (oMul (K := K)) (pe_lst (pa_cons pe_non pa_nil)) (pe_op (oAdd (K := K)) (pe_callB (cr_max rfl) (by rfl) T.b_max (by decide +kernel) (pa_cons (pe_op (oAdd (K := K)) (pv 3) (pe_lst (pa_cons pe_int pa_nil))) pa_nil)) pe_int)))
      (pss_cons (ps_set (i := 5) sc_law_store.nd rfl (by first | exact Or.inl rfl | exact Or.inr rfl) (pe_lst (pa_cons pe_int pa_nil)))
      (pss_cons (ps_set (i := 6) sc_law_store.nd rfl (by first | exact Or.inl rfl | exact Or.inr rfl) (pe_disp (pps_cons pe_int pe_dnewK pps_nil) (by rfl) (by rfl) (fun z => by cases z) (by decide)))
      (pss_cons (ps_set (i := 7) sc_law_store.nd rfl (by first | exact Or.inl rfl | exact Or.inr rfl) (pe_lst pa_nil))
      (pss_cons (ps_for PassesOwn.never rfl (pi_any (K := K) (pv 3)) (pg_name (i := 8) sc_law_store.nd rfl (by first | exact Or.inl rfl | exact Or.inr rfl)) (pss_cons (ps_set (i := 9) sc_law_store.nd rfl (by first | exact Or.inl rfl | exact Or.inr rfl) (pe_cal c_law_one_of (hr.mono (by decide)) (by rfl) pass0 (pa_cons (pv 0) (pa_cons (pv 5) pa_nil))))
      (pss_cons (ps_setLc (i := 10) (own := [("name", 11)]) rfl sc_law_store.nd rfl rfl (sw_true rfl rfl rfl (by decide +kernel)) (pi_any (K := K) (pe_lst (pa_cons pe_str (pa_cons pe_str (pa_cons pe_str (pa_cons pe_str (pa_cons pe_str (pa_cons pe_str (pa_cons pe_str (pa_cons pe_str (pa_cons pe_str (pa_cons pe_str pa_nil)))))))))))) (blkOk_by (own := [("name", 11)]) (N := ["deck", "most", "many", "numbers", "nodes", "rooms", "entries", "others", "number", "room", "free", "name", "way", "turn"]) (sc := defScope s_law_store) (by decide +kernel)) (fun _ _ _ _ _ => pg_name (i := 11) sc_law_store.nd rfl (by first | exact Or.inl rfl | exact Or.inr rfl)) (fun _ _ _ _ _ => pts_one (pt_cmp (pc_dnotin hu (pv 11) (pe_dget hu (pv 6) (pv 9) (fun _ _ => rfl))))) (fun _ _ _ _ _ => (pv 11)))
      (pss_one (ps_if (pt_cmpR (oNe (K := K) hr.u65) (pv 10) (pe_lst pa_nil) (nomark _)) (pss_cons (ps_set (i := 11) sc_law_store.nd rfl (by first | exact Or.inl rfl | exact Or.inr rfl) (pe_ix (ixX (K := K)) (pv 10) (pe_callB (call_minX rfl) (by rfl) T.b_min (by decide +kernel) (pa_cons (pe_cal c_law_draw (hr.mono (by decide)) (by rfl) pass0 (pa_cons (pv 0) (pa_cons pe_int pa_nil))) (pa_cons (pe_op oSub (pe_callB (call_lenX (K := K)) (by rfl) T.b_len (by decide +kernel) (pa_cons (pv 10) pa_nil)) pe_int) pa_nil))) (fun _ _ => rfl)))
      (pss_cons (ps_dput hu (pe_dget hu (pv 6) (pv 9) (fun _ _ => rfl)) (pv 11) (pv 8) rfl)
      (pss_cons (ps_set (i := 12) sc_law_store.nd rfl (by first | exact Or.inl rfl | exact Or.inr rfl) (pe_cal c_law_draw (hr.mono (by decide)) (by rfl) pass0 (pa_cons (pv 0) (pa_cons pe_int pa_nil))))
      (pss_one (ps_if (pt_cmpR oLt (pv 12) pe_int (nomark _)) (pss_cons (ps_expr (pe_bmX (K := K) PySem.F.plainAttrs_list PySem.F.slot_list_append PySem.F.type_list_append mt_append (pv 5) (pa_cons (pv 8) pa_nil)))
      (pss_one (ps_dput hu (pv 6) (pv 8) pe_dnewK rfl))) (pss_cons (ps_expr (pe_bmX (K := K) PySem.F.plainAttrs_list PySem.F.slot_list_append PySem.F.type_list_append mt_append (pv 7) (pa_cons (pv 8) pa_nil)))
      (pss_one (ps_asg (pe_ifExp (pt_cmpR oLt (pv 12) pe_int (nomark _)) (pe_tup (pa_cons pe_str (pa_cons (pe_cal c_law_text (hr.mono (by decide)) (by rfl) pass0 (pa_cons (pv 0) pa_nil)) pa_nil))) (pe_tup (pa_cons pe_str (pa_cons (pe_cal c_law_path (hr.mono (by decide)) (by rfl) pass0 (pa_cons (pv 0) (pa_cons pe_int pa_nil))) pa_nil)))) (pg_sub (pv 4) (pv 8) set_list))))))))) pss_nil)))))
      (pss_cons (ps_for PassesOwn.never rfl (pi_range1 (by rfl) T.b_range (pa_cons (pe_cal c_law_draw (hr.mono (by decide)) (by rfl) pass0 (pa_cons (pv 0) (pa_cons pe_int pa_nil))) pa_nil)) (pg_name (i := 13) sc_law_store.nd rfl (by first | exact Or.inl rfl | exact Or.inr rfl)) (pss_cons (ps_asg (pe_tup (pa_cons (pe_cal c_law_one_of (hr.mono (by decide)) (by rfl) pass0 (pa_cons (pv 0) (pa_cons (pv 5) pa_nil))) (pa_cons (pe_cal c_law_name (hr.mono (by decide)) (by rfl) pass0 (pa_cons (pv 0) pa_nil)) pa_nil))) (pg_seqX (K := K) (n := 2) rfl (pgs_cons (pg_name (i := 9) sc_law_store.nd rfl (by first | exact Or.inl rfl | exact Or.inr rfl)) (pgs_cons (pg_name (i := 11) sc_law_store.nd rfl (by first | exact Or.inl rfl | exact Or.inr rfl)) pgs_nil))))
      (pss_one (ps_if (PW.pt (pw_and (pt_cmpR (oNe (K := K) hr.u65) (pv 7) (pe_lst pa_nil) (nomark _)) (pw_and1 (pt_cmp (pc_dnotin hu (pv 11) (pe_dget hu (pv 6) (pv 9) (fun _ _ => rfl))))))) (pss_one (ps_dput hu (pe_dget hu (pv 6) (pv 9) (fun _ _ => rfl)) (pv 11) (pe_cal c_law_one_of (hr.mono (by decide)) (by rfl) pass0 (pa_cons (pv 0) (pa_cons (pv 7) pa_nil))) rfl)) pss_nil))))
      (pss_cons (ps_for PassesOwn.never rfl (pi_any (K := K) (pv 5)) (pg_name (i := 9) sc_law_store.nd rfl (by first | exact Or.inl rfl | exact Or.inr rfl)) (pss_one (ps_asg (pe_tup (pa_cons pe_str (pa_cons (pe_callTy (callTupF (K := K)) (by rfl) T.b_tuple (by decide +kernel) (pa_cons (pe_callB (call_sortIt rfl hr.u65) (by rfl) T.b_sorted (by decide +kernel) (pa_cons (pe_bm0X (K := K) PySem.F.plainAttrs_dict PySem.F.slot_dict_items PySem.F.type_dict_items mt_itemsK (pe_dget hu (pv 6) (pv 9) (fun _ _ => rfl))) pa_nil)) pa_nil)) pa_nil))) (pg_sub (pv 4) (pv 9) set_list))))
      (pss_cons (ps_while PassesOwn.never (pt_cmpR oIs (pe_ix (ixX (K := K)) (pv 4) (pe_un un_neg pe_int) (fun _ _ => rfl)) pe_non (nomark _)) (pss_one (ps_expr (pe_bm0X (K := K) PySem.F.plainAttrs_list PySem.F.slot_list_pop PySem.F.type_list_pop mt_pop (pv 4)))))
      (pss_one (ps_ret (pe_callTy (callTupF (K := K)) (by rfl) T.b_tuple (by decide +kernel) (pa_cons (pv 4) pa_nil)))))))))))))), ?_⟩
  rw [show start ["deck", "most", "many", "numbers", "nodes", "rooms", "entries", "others", "number", "room", "free", "name", "way", "turn"] [v_deck, v_most] = [some v_deck, some v_most, none, none, none, none, none, none, none, none, none, none, none, none] from rfl]
  try dsimp only [cxOf, Cx.nox, Cx.wish]
  obtain ⟨d, n, m, rfl, rfl, hn, hd, hm, q⟩ := h
  walk_at "rd"
  refine use_draw hd (by omega) (by omega) (by omega) fun v H1 v0 v1 d1 k1 => ?_
  obtain ⟨v, rfl⟩ : ∃ k : Nat, v = (k : Int) := ⟨v.toNat, by omega⟩
  walk_at "rd"
  refine ⟨d, v, m + 1, rfl, rfl, by omega, d1, by omega, fun u ks H2 hu1 hu ud lks ndk hks d2 k2 => ?_⟩
  have uH : H u = none := k1.free ud hu1
  have k12 := k1.trans k2
  walk_at "rd"
  intro p1 hp1
  have e1 := (Same.refl H2).new (o := .lst [V.non]) hp1
  have p1v : upd H2 p1 (.lst [V.non]) p1 = some (.lst [V.non]) := upd_same
  generalize upd H2 p1 (.lst [V.non]) = H2a at e1 p1v ⊢
  walk_at "rd"
  intro p2 hp2
  have e2 := e1.new (o := .lst [V.int 0]) hp2
  have p1w := ((Same.refl H2a).new (o := .lst [V.int 0]) hp2) _ _ p1v
  have p2v : upd H2a p2 (.lst [V.int 0]) p2 = some (.lst [V.int 0]) := upd_same
  generalize upd H2a p2 (.lst [V.int 0]) = H2b at e2 p1w p2v ⊢
  refine rd_cat (e2 _ _ hu) p2v (szOk (by rw [List.length_map]; show ks.length + 1 ≤ 1000000; omega)) fun p3 hp3 => ?_
  have eks : (ks.map nv ++ [V.int 0] : List V) = (ks.map (fun n : Nat => (n : Int)) ++ [0]).map V.int := by rw [List.map_append, List.map_map]; rfl
  rw [eks]
  have e3 := e2.new (o := .lst ((ks.map (fun n : Nat => (n : Int)) ++ [0]).map V.int)) hp3
  have p1x := ((Same.refl H2b).new (o := .lst ((ks.map (fun n : Nat => (n : Int)) ++ [0]).map V.int)) hp3) _ _ p1w
  have p3v : upd H2b p3 (.lst ((ks.map (fun n : Nat => (n : Int)) ++ [0]).map V.int)) p3 = some (.lst ((ks.map (fun n : Nat => (n : Int)) ++ [0]).map V.int)) := upd_same
  generalize upd H2b p3 (.lst ((ks.map (fun n : Nat => (n : Int)) ++ [0]).map V.int)) = H2c at e3 p1x p3v ⊢
  walk_at "rd"
  refine rd_max1 p3v (by rw [List.length_append]; exact Nat.succ_pos _) fun mx hmx hle => ?_
  have mx0 : 0 ≤ mx := hle 0 (List.mem_append_right _ (List.mem_singleton.mpr rfl))
  have ksle : ∀ k ∈ ks, (k : Int) ≤ mx := fun k hk => hle _ (List.mem_append_left _ (List.mem_map.mpr ⟨k, hk, rfl⟩))
  have mxn : mx ≤ n + 2 := by
    rcases List.mem_append.mp hmx with h | h
    · obtain ⟨k, hk, rfl⟩ := List.mem_map.mp h
      have := (hks k hk).2
      omega
    · rw [List.mem_singleton.mp h]
      omega
  obtain ⟨l, rfl⟩ : ∃ k : Nat, mx = (k : Int) := ⟨mx.toNat, by omega⟩
  walk_at "rd"
  refine rd_rep p1x (by omega) (by omega) (by show 1 * ((l : Int) + 1).toNat ≤ sizeLine; exact szOk (by omega)) fun nA hnA => ?_
  rw [flat_nonS, show ((l : Int) + 1).toNat = l + 1 by omega]
  have e4 := e3.new (o := .lst (List.replicate (l + 1) V.non)) hnA
  have nAv : upd H2c nA (.lst (List.replicate (l + 1) V.non)) nA = some (.lst (List.replicate (l + 1) V.non)) := upd_same
  have nA2 : H2 nA = none := Sub.of e3 nA hnA
  have nAu : u ≠ nA := fun e => by rw [← e, hu] at nA2; cases nA2
  generalize upd H2c nA (.lst (List.replicate (l + 1) V.non)) = H3 at e4 nAv ⊢
  have d3 := d2.same e4
  have k3 := k12.trans (Kp.of e4)
  walk_at "rd"
  intro rA hrA
  walk_at "rd"
  refine rd_dispD fun D hD b0 hb0 => ?_
  walk_at "rd"
  intro oA hoA
  obtain ⟨S0, d6⟩ := ss_start k3 d3 ud uH (e4 _ _ hu) (d2.ne nA2).symm (k12.free (d2.ne nA2).symm nA2) nAv nAu hrA hD hb0 hoA
  generalize upd (upd (upd (upd (upd H3 rA (.lst [V.int 0])) D (.dK [])) b0 (.dK [])) D (.dK [(Sum.inl 0, .ref b0)])) oA (.lst []) = H6 at S0 d6 ⊢
  clear e1 p1v p1w p1x e2 p2v p3v e3 hmx hle eks hp1 hp2 hp3 hnA k12 k2 d2 hu hu1 d1 k1 hrA hD hb0 hoA nAv nA2 nAu e4 d3 k3
  walk_at "rd"
  refine rd_forV (by with_unfolding_all rfl) (.inl S0.hu) (fun i σ H' => ∃ (G : Gh) (O : List (Nat × Nd)) (s : Sto) (x8 x9 x10 x11 x12 x13 : Option V), SS d H u nA rA D oA ks (rms G) (O.map (·.1)) G s H' ∧ Dk d (m + 71 + 30 * i) H' ∧ GI G (O.map (·.1)) i (l + 1) ∧ s.length = l + 1 ∧
      (∀ o ∈ O, (∃ t, o.2 = .file t ∧ textB t = true) ∨ ∃ p, o.2 = .sign p ∧ pathB (.str p) = true) ∧ (∀ k nd, s[k]? = some (some nd) ↔ (k, nd) ∈ O) ∧ (∀ k ∈ rms G ++ O.map (·.1), k = 0 ∨ k ∈ ks.take i) ∧
      σ = [some (.ref d), some (.int n), some (.int v), some (.ref u), some (.ref nA), some (.ref rA), some (.ref D), some (.ref oA), x8, x9, x10, x11, x12, x13])
    ⟨[(0, b0, [])], [], List.replicate (l + 1) none, _, _, _, _, _, _, S0, d6.mono (by omega), ?_, List.length_replicate, (fun _ h => nomatch h), fun k nd => ?_, fun k hk => .inl (List.mem_singleton.mp hk), rfl⟩ ?_ ?_ ?_
  · refine ⟨List.mem_singleton.mpr rfl, by show [0].Nodup; decide, fun k hk => by have : k = 0 := List.mem_singleton.mp hk; omega, fun r a es h e he => ?_, fun r a es h => ?_, fun r a es r' a' es' e e' h h' he he' => ?_, fun k hk => ?_⟩
    · cases List.mem_singleton.mp h
      cases he
    · cases List.mem_singleton.mp h
      exact ⟨List.nodup_nil, Nat.le_refl _⟩
    · cases List.mem_singleton.mp h
      cases he
    · rw [List.mem_singleton.mp hk]
      exact .root
  · rw [List.getElem?_replicate]
    constructor
    · intro h
      split at h <;> cases h
    · intro h
      cases h
  · rintro i σ H' ⟨_, _, _, _, _, _, _, _, _, S, _⟩ o e
    rw [S0.hu] at e
    cases e
    exact S.hu
  · rintro i x σ H7 hx ⟨G, O, s, x8, x9, x10, x11, x12, x13, S, dk, gi, ls, hO, hs, hmem, rfl⟩
    rw [List.getElem?_map] at hx
    obtain ⟨k, hk, rfl⟩ := Option.map_eq_some_iff.mp hx
    have hki : i < ks.length := (List.getElem?_eq_some_iff.mp hk).1
    have hi15 : i < 15 := by omega
    walk_at "rd"
    have lr : 1 ≤ (rms G).length := List.length_pos_iff.mpr fun e => by have := gi.g0; rw [e] at this; cases this
    have lr2 : (rms G).length ≤ l + 1 := few_nats _ (List.nodup_append.mp gi.nd).1 fun k hk => gi.lt k (List.mem_append_left _ hk)
    refine ⟨d, rA, (rms G).map nv, _, rfl, rfl, S.hr, (S.nw rA (by simp)).2, (by rw [List.length_map]; exact lr), (by rw [List.length_map]; exact Nat.le_trans lr2 (by omega)), dk, (by omega), fun xr H8 hxr d8 k8 => ?_⟩
    obtain ⟨r, hrm, rfl⟩ := List.mem_map.mp hxr
    have S8 := S.draw dk k8
    obtain ⟨a, es, hmG⟩ := rms_mem.mp hrm
    have ndr : (rms G).Nodup := (List.nodup_append.mp gi.nd).1
    walk_at "rd"
    refine rd_lcL ?_
    walk_at "rd"
    intro l1 hl1
    rw [show ([V.str "a", V.str "b", V.str "f", V.str "s", V.str "x.y", V.str "-", V.str "_1", V.str ".h", V.str "zz-9", V.str "abcdefghijkl"] : List V) = NAMES.map V.str from rfl]
    have S9 := S8.same ((Same.refl H8).new (o := .lst (NAMES.map V.str)) hl1)
    have d9 := d8.new (o := .lst (NAMES.map V.str)) hl1
    have l1v : upd H8 l1 (.lst (NAMES.map V.str)) l1 = some (.lst (NAMES.map V.str)) := upd_same
    generalize upd H8 l1 (.lst (NAMES.map V.str)) = H9 at S9 d9 l1v ⊢
    have hDv := val_G ndr hmG
    have hga := S9.hg _ _ _ hmG
    refine rd_mapL (SqL.of l1v) (fun x => match x with | .str z => decide (z ∉ es.map (·.1)) | _ => false) (fun x => x) (fun _ => rfl) (by decide) (fun x hx => ?_) (fun x hx hp => ?_) ?_
    · obtain ⟨z, hz, rfl⟩ := List.mem_map.mp hx
      intro H1 s1 QE q1
      walk_at "rd"
      refine rd_dNotIn ?_
      walk_at "rd"
      refine rd_dGet ?_
      walk_at "rd"
      refine ⟨D, .ref a, rfl, by rw [← hDv]; exact DGet.k (k := Sum.inl (r : Int)) (s1 _ _ S9.hD), a, _, rfl, DGet.k (k := Sum.inr z) (s1 _ _ hga), ?_⟩
      rw [val_e]
      walk_at "rd"
      have e : (!decide (z ∈ es.map (·.1))) = decide (z ∉ es.map (·.1)) := by rw [decide_not]
      rw [e]
      exact q1 H1 (Same.refl H1)
    · intro H1 s1 QE q1
      walk_at "rd"
      exact q1 H1 (Same.refl H1)
    · intro fA H10 hfA s10 hf
      have S10 := S9.same s10
      have d10 := d9.same s10
      walk_at "rd"
      intro l2 hl2
      have s11 := (Same.refl H10).new (o := .lst []) hl2
      have S11 := S10.same s11
      have d11 := d10.same s11
      have hf11 := s11 _ _ hf
      have l2v : upd H10 l2 (.lst []) l2 = some (.lst []) := upd_same
      generalize upd H10 l2 (.lst []) = H11 at s11 S11 d11 hf11 l2v ⊢
      have hmap : ((NAMES.map V.str).filter fun x => match x with | .str z => decide (z ∉ es.map (·.1)) | _ => false).map (fun x => x) = (NAMES.filter fun z => decide (z ∉ es.map (·.1))).map V.str := by
        rw [List.map_id', List.filter_map]
        rfl
      rw [hmap] at hf11
      obtain ⟨fr, hfr⟩ : ∃ fr, fr = NAMES.filter fun z => decide (z ∉ es.map (·.1)) := ⟨_, rfl⟩
      rw [← hfr] at hf11
      have frl : fr.length ≤ 10 := by rw [hfr]; exact List.length_filter_le _ _
      have kss : ks.take (i + 1) = ks.take i ++ [k] := by rw [List.take_add_one, hk]; rfl
      refine rd_neNil (SqL.of hf11) (SqL.of l2v) ?_
      walk_at "rd"
      refine rd_ite (fun hc => ?_) (fun hc => ?_)
      rotate_left
      · walk_at "rd"
        exact ⟨G, O, s, _, _, _, _, _, _, S11, d11.mono (by omega), gi.mono (by omega), ls, hO, hs, fun j hj => (hmem j hj).imp id fun h => by rw [kss]; exact List.mem_append_left _ h, rfl⟩
      have fr1 : 1 ≤ fr.length := by
        cases fr with
        | nil => cases hc
        | cons => exact Nat.succ_pos _
      have kfresh : k ∉ rms G ++ O.map (·.1) := fun h => by
        have kz := hks k (List.mem_of_getElem? hk)
        rcases hmem k h with h | h
        · omega
        · obtain ⟨j, hj⟩ := List.mem_iff_getElem?.mp h
          rw [List.getElem?_take] at hj
          split at hj
          · rename_i hji
            have := (List.getElem?_inj (List.getElem?_eq_some_iff.mp hj).1 ndk).mp (hj.trans hk.symm)
            omega
          · cases hj
      have kL : k < l + 1 := by have := ksle k (List.mem_of_getElem? hk); omega
      walk_at "rd"
      refine use_draw d11 (by omega) (by omega) (by omega) fun w H12 w0 w1 d12 k12 => ?_
      have S12 := S11.draw d11 k12
      have fAd : fA ≠ d := fun e => by
        obtain ⟨_, _, _, q, _⟩ := d11
        rw [e, q] at hf11
        cases fr with
        | nil => cases fr1
        | cons a b => cases hf11
      have hf12 := k12 _ _ fAd hf11
      walk_at "rd"
      refine rd_lenL (SqL.of hf12) ?_
      rw [List.length_map]
      walk_at "rd"
      refine pick (SqL.of hf12) (by omega) (by rw [List.length_map]; omega) fun x hx => ?_
      obtain ⟨nm, hnm, rfl⟩ := List.mem_map.mp hx
      rw [hfr] at hnm
      obtain ⟨hnm1, hnm2⟩ := List.mem_filter.mp hnm
      have hnmB : entB nm = true := List.all_eq_true.mp (show NAMES.all entB = true by decide +kernel) nm hnm1
      have hfre : ∀ a' es', (r, a', es') ∈ G → nm ∉ es'.map (·.1) := fun a' es' h => by
        obtain ⟨e1, e2⟩ := num_inj ndr hmG h
        rw [← e2]
        exact of_decide_eq_true hnm2
      have hesl := (gi.nam _ _ _ hmG).2
      walk_at "rd"
      refine rd_dGet ?_
      walk_at "rd"
      refine ⟨D, .ref a, rfl, by rw [← hDv]; exact DGet.k (k := Sum.inl (r : Int)) S12.hD, ?_⟩
      walk_at "rd"
      refine rd_putS (S12.hg _ _ _ hmG) (szLt (by rw [List.length_map]; omega)) ?_
      have hpk : putK (es.map kvN) (Sum.inr nm) (nv k) = (es ++ [(nm, k)]).map kvN := by
        rw [putK_fresh, List.map_append]
        · rfl
        · intro h
          rw [List.map_map] at h
          obtain ⟨e, he, q⟩ := List.mem_map.mp h
          exact of_decide_eq_true hnm2 (List.mem_map.mpr ⟨e, he, Sum.inr.inj q⟩)
      rw [hpk]
      have S13 := S12.put_e ndr hmG (nm, k)
      have d13 := d12.put (o := .dK ((es ++ [(nm, k)]).map kvN)) (fun e : d = a => (S12.nw a (List.mem_append_right _ (SS.mem_a hmG))).2 e.symm)
      generalize upd H12 a (.dK ((es ++ [(nm, k)]).map kvN)) = H13 at S13 d13 ⊢
      walk_at "rd"
      refine use_draw d13 (by omega) (by omega) (by omega) fun wy H14 wy0 wy1 d14 k14 => ?_
      have S14 := S13.draw d13 k14
      walk_at "rd"
      refine rd_ite (fun hw => ?_) (fun hw => ?_)
      · walk_at "rd"
        refine rd_tyL (SqL.of S14.hr) ?_
        walk_at "rd"
        refine rd_app S14.hr (szLt (by rw [List.length_map]; omega)) ?_
        rw [show ((rms G).map nv ++ [V.int (k : Int)] : List V) = (rms G ++ [k]).map nv by rw [List.map_append]; rfl]
        have S15 := S14.app_r k
        have d15 := d14.put (o := .lst ((rms G ++ [k]).map nv)) (fun e : d = rA => (S14.nw rA (by simp)).2 e.symm)
        generalize upd H14 rA (.lst ((rms G ++ [k]).map nv)) = H15 at S15 d15 ⊢
        walk_at "rd"
        intro b hb
        walk_at "rd"
        have S16 := S15.put_D d15 k hb
        have hGl : G.length = (rms G).length := by unfold rms; rw [List.length_map]
        have bD : D ≠ b := fun e => by rw [← e, S15.hD] at hb; cases hb
        refine rd_putI (kvs := (addE G r (nm, k)).map kvG) (by rw [upd_ne bD]; exact S15.hD) (szLt (by rw [List.length_map]; unfold addE; rw [List.length_map]; omega)) ?_
        have hpg : putK ((addE G r (nm, k)).map kvG) (Sum.inl (k : Int)) (V.ref b) = (addE G r (nm, k) ++ [(k, b, [])]).map kvG := by
          rw [putK_fresh, List.map_append]
          · rfl
          · intro h
            rw [List.map_map] at h
            obtain ⟨⟨r1, a1, es1⟩, he, q⟩ := List.mem_map.mp h
            have q : ((r1 : Nat) : Int) = k := Sum.inl.inj q
            have : r1 = k := by omega
            subst this
            exact kfresh (List.mem_append_left _ (by rw [← rms_add (r := r) (x := (nm, r1))]; exact rms_mem.mpr ⟨_, _, he⟩))
        rw [hpg]
        have d16 := (d15.new (o := .dK []) hb).put (o := .dK ((addE G r (nm, k) ++ [(k, b, [])]).map kvG)) (fun e : d = D => (S14.nw D (by simp)).2 e.symm)
        have er : rms (addE G r (nm, k) ++ [(k, b, [])]) = rms G ++ [k] := by
          unfold rms
          rw [List.map_append]
          show rms (addE G r (nm, k)) ++ [k] = _
          rw [rms_add]
          rfl
        refine ⟨addE G r (nm, k) ++ [(k, b, [])], O, s, _, _, _, _, _, _, by rw [er]; exact S16, d16.mono (by omega), gi.room hrm hnmB hfre kfresh kL b, ls, hO, hs, fun j hj => ?_, rfl⟩
        rw [er, List.append_assoc] at hj
        rw [kss]
        rcases List.mem_append.mp hj with h | h
        · exact (hmem j (List.mem_append_left _ h)).imp id fun h => List.mem_append_left _ h
        · rcases List.mem_append.mp h with h | h
          · exact .inr (List.mem_append_right _ h)
          · exact (hmem j (List.mem_append_right _ h)).imp id fun h => List.mem_append_left _ h
      · walk_at "rd"
        refine rd_tyL (SqL.of S14.ho) ?_
        have lo : (O.map (·.1)).length ≤ l + 1 := few_nats _ (List.nodup_append.mp gi.nd).2.1 fun k hk => gi.lt k (List.mem_append_right _ hk)
        walk_at "rd"
        refine rd_app S14.ho (szLt (by rw [List.length_map]; omega)) ?_
        rw [show ((O.map (·.1)).map nv ++ [V.int (k : Int)] : List V) = (O.map (·.1) ++ [k]).map nv by rw [List.map_append]; rfl]
        have S15 := S14.app_o k
        have d15 := d14.put (o := .lst ((O.map (·.1) ++ [k]).map nv)) (fun e : d = oA => (S14.nw oA (by simp)).2 e.symm)
        generalize upd H14 oA (.lst ((O.map (·.1) ++ [k]).map nv)) = H15 at S15 d15 ⊢
        have fin : ∀ (x : V) (nd : Nd) (H16 : Hp), NdAt H16 x (some nd) → ((∃ t, nd = .file t ∧ textB t = true) ∨ ∃ p, nd = .sign p ∧ pathB (.str p) = true) → SS d H u nA rA D oA ks (rms G) (O.map (·.1) ++ [k]) (addE G r (nm, k)) s H16 → Dk d (m + 71 + 30 * (i + 1)) H16 → rSetL (.ref nA) (nv k) x H16 fun H17 =>
            ∃ (G : Gh) (O : List (Nat × Nd)) (s : Sto) (x8' x9' x10' x11' x12' x13' : Option V), SS d H u nA rA D oA ks (rms G) (O.map (·.1)) G s H17 ∧ Dk d (m + 71 + 30 * (i + 1)) H17 ∧ GI G (O.map (·.1)) (i + 1) (l + 1) ∧ s.length = l + 1 ∧
              (∀ o ∈ O, (∃ t, o.2 = .file t ∧ textB t = true) ∨ ∃ p, o.2 = .sign p ∧ pathB (.str p) = true) ∧ (∀ k nd, s[k]? = some (some nd) ↔ (k, nd) ∈ O) ∧ (∀ k ∈ rms G ++ O.map (·.1), k = 0 ∨ k ∈ ks.take (i + 1)) ∧
              [some (.ref d), some (.int n), some (.int v), some (.ref u), some (.ref nA), some (.ref rA), some (.ref D), some (.ref oA), some (nv k), some (nv r), some (.ref fA), some (.str nm), some (.int wy), x13] = [some (.ref d), some (.int n), some (.int v), some (.ref u), some (.ref nA), some (.ref rA), some (.ref D), some (.ref oA), x8', x9', x10', x11', x12', x13'] := by
          intro x nd H16 hx hnd S16 d16
          obtain ⟨xs, hxs, pxs⟩ := S16.hn
          have lxs := Paired.length pxs
          refine rd_setL hxs (ixN_nat (by omega)) ?_
          have S17 := S16.set_n hxs k hx
          have em : (O ++ [(k, nd)]).map (·.1) = O.map (·.1) ++ [k] := by rw [List.map_append]; rfl
          refine ⟨addE G r (nm, k), O ++ [(k, nd)], s.set k (some nd), _, _, _, _, _, _, by rw [em, rms_add]; exact S17, d16.put (fun e : d = nA => (S14.nw nA (by simp)).2 e.symm), by rw [em]; exact gi.other hrm hnmB hfre kfresh kL, by rw [List.length_set]; exact ls, fun o ho => ?_, fun j nd' => ?_, fun j hj => ?_, rfl⟩
          · rcases List.mem_append.mp ho with h | h
            · exact hO o h
            · rw [List.mem_singleton.mp h]
              exact hnd
          · rw [List.getElem?_set, List.mem_append]
            by_cases hjk : k = j
            · subst hjk
              rw [if_pos rfl, if_pos (by omega)]
              constructor
              · intro h
                cases h
                exact .inr (List.mem_singleton.mpr rfl)
              · rintro (h | h)
                · exact absurd (List.mem_append_right _ (List.mem_map.mpr ⟨_, h, rfl⟩)) kfresh
                · cases List.mem_singleton.mp h
                  rfl
            · rw [if_neg hjk, hs]
              constructor
              · exact .inl
              · rintro (h | h)
                · exact h
                · cases List.mem_singleton.mp h
                  exact absurd rfl hjk
          · rw [em, rms_add, ← List.append_assoc] at hj
            rw [kss]
            rcases List.mem_append.mp hj with h | h
            · exact (hmem j h).imp id fun h => List.mem_append_left _ h
            · exact .inr (List.mem_append_right _ h)
        walk_at "rd"
        refine rd_ite (fun hw2 => ?_) (fun hw2 => ?_)
        · walk_at "rd"
          refine ⟨d, _, rfl, d15, by omega, fun z H16 hz d16 k16 => ?_⟩
          have S16 := S15.draw d15 k16
          walk_at "rd"
          intro t1 ht1
          walk_at "rd"
          exact fin _ (.file z) _ ⟨t1, rfl, Rt.of upd_same⟩ (.inl ⟨z, rfl, hz⟩) (S16.same ((Same.refl H16).new (o := .tup [V.str "file", V.str z]) ht1)) ((d16.new ht1).mono (by omega))
        · walk_at "rd"
          refine ⟨d, 3, _, rfl, rfl, by omega, d15, by omega, fun z H16 hz d16 k16 => ?_⟩
          have S16 := S15.draw d15 k16
          walk_at "rd"
          intro t1 ht1
          walk_at "rd"
          exact fin _ (.sign z) _ ⟨t1, rfl, Rt.of upd_same⟩ (.inr ⟨z, rfl, hz⟩) (S16.same ((Same.refl H16).new (o := .tup [V.str "sign", V.str z]) ht1)) ((d16.new ht1).mono (by omega))
  · rintro σ H7 ⟨G, O, s, x8, x9, x10, x11, x12, x13, S, dk, gi, ls, hO, hs, hmem, rfl⟩
    rw [List.length_map] at gi dk
    walk_at "rd"
    rw [show ks.length = v from lks] at gi dk
    refine use_draw dk (by omega) (by omega) (by omega) fun tn H8 t0 t1 d8 k8 => ?_
    have S8 := S.draw dk k8
    clear dk S k8 hmem
    walk_at "rd"
    refine rd_itR (by omega) (by omega) (fun i σ H' => ∃ (G : Gh) (x8 x9 x10 x11 x12 x13 : Option V), SS d H u nA rA D oA ks (rms G) (O.map (·.1)) G s H' ∧ Dk d (m + 71 + 30 * v + 1 + 3 * i) H' ∧ GI G (O.map (·.1)) (v + i) (l + 1) ∧
      σ = [some (.ref d), some (.int n), some (.int v), some (.ref u), some (.ref nA), some (.ref rA), some (.ref D), some (.ref oA), x8, x9, x10, x11, x12, x13])
      ⟨G, _, _, _, _, _, _, S8, d8, gi, rfl⟩ ?_ ?_
    · clear S8 d8 gi
      rintro i σ H9 hi ⟨G, x8, x9, x10, x11, x12, x13, S, dk, gi, rfl⟩
      have hi2 : i < 2 := by omega
      walk_at "rd"
      have lr : 1 ≤ (rms G).length := List.length_pos_iff.mpr fun e => by have := gi.g0; rw [e] at this; cases this
      have lr2 : (rms G).length ≤ l + 1 := few_nats _ (List.nodup_append.mp gi.nd).1 fun k hk => gi.lt k (List.mem_append_left _ hk)
      have lo : (O.map (·.1)).length ≤ l + 1 := few_nats _ (List.nodup_append.mp gi.nd).2.1 fun k hk => gi.lt k (List.mem_append_right _ hk)
      refine ⟨d, rA, (rms G).map nv, _, rfl, rfl, S.hr, (S.nw rA (by simp)).2, (by rw [List.length_map]; exact lr), (by rw [List.length_map]; exact Nat.le_trans lr2 (by omega)), dk, (by omega), fun xr H10 hxr d10 k10 => ?_⟩
      obtain ⟨r, hrm, rfl⟩ := List.mem_map.mp hxr
      have S10 := S.draw dk k10
      obtain ⟨a, es, hmG⟩ := rms_mem.mp hrm
      have ndr : (rms G).Nodup := (List.nodup_append.mp gi.nd).1
      have hDv := val_G ndr hmG
      have hesl := (gi.nam _ _ _ hmG).2
      walk_at "rd"
      refine ⟨d, _, rfl, d10, by omega, fun nm H11 hnm d11 k11 => ?_⟩
      have S11 := S10.draw d10 k11
      walk_at "rd"
      intro tt htt
      have s12 := (Same.refl H11).new (o := .tup [nv r, V.str nm]) htt
      have S12 := S11.same s12
      have d12 := d11.same s12
      refine rd_gtup (SqT.of upd_same) rfl ?_
      generalize upd H11 tt (.tup [nv r, V.str nm]) = H12 at s12 S12 d12 ⊢
      walk_at "rd"
      intro l3 hl3
      have s13 := (Same.refl H12).new (o := .lst []) hl3
      have S13 := S12.same s13
      have d13 := d12.same s13
      have l3v : upd H12 l3 (.lst []) l3 = some (.lst []) := upd_same
      generalize upd H12 l3 (.lst []) = H13 at s13 S13 d13 l3v ⊢
      have stay : ∃ (G : Gh) (x8' x9' x10' x11' x12' x13' : Option V), SS d H u nA rA D oA ks (rms G) (O.map (·.1)) G s H13 ∧ Dk d (m + 71 + 30 * v + 1 + 3 * (i + 1)) H13 ∧ GI G (O.map (·.1)) (v + (i + 1)) (l + 1) ∧
          [some (.ref d), some (.int n), some (.int v), some (.ref u), some (.ref nA), some (.ref rA), some (.ref D), some (.ref oA), x8, some (nv r), x10, some (.str nm), x12, some (.int i)] = [some (.ref d), some (.int n), some (.int v), some (.ref u), some (.ref nA), some (.ref rA), some (.ref D), some (.ref oA), x8', x9', x10', x11', x12', x13'] :=
        ⟨G, _, _, _, _, _, _, S13, d13.mono (by omega), gi.mono (by omega), rfl⟩
      refine rd_neNil (SqL.of S13.ho) (SqL.of l3v) ?_
      walk_at "rd"
      refine rd_ite (fun hc => ?_) (fun hc => ?_)
      rotate_left
      · walk_at "rd"
        exact stay
      refine rd_tB ?_
      refine rd_dNotIn ?_
      walk_at "rd"
      refine rd_dGet ?_
      walk_at "rd"
      refine ⟨D, .ref a, rfl, by rw [← hDv]; exact DGet.k (k := Sum.inl (r : Int)) S13.hD, a, _, rfl, DGet.k (k := Sum.inr nm) (S13.hg _ _ _ hmG), ?_⟩
      rw [val_e]
      walk_at "rd"
      refine rd_ite (fun hf => ?_) (fun hf => ?_)
      rotate_left
      · walk_at "rd"
        exact stay
      have hfr : nm ∉ es.map (·.1) := by
        cases h : decide (nm ∈ es.map (·.1)) with
        | true => rw [h] at hf; cases hf
        | false => exact of_decide_eq_false h
      have lo1 : 1 ≤ (O.map (·.1)).length := by
        cases h : O.map (·.1) with
        | nil => rw [h] at hc; cases hc
        | cons => exact Nat.succ_pos _
      walk_at "rd"
      refine ⟨d, oA, (O.map (·.1)).map nv, _, rfl, rfl, S13.ho, (S13.nw oA (by simp)).2, (by rw [List.length_map]; exact lo1), (by rw [List.length_map]; exact Nat.le_trans lo (by omega)), d13, (by omega), fun xk H14 hxk d14 k14 => ?_⟩
      obtain ⟨k, hk, rfl⟩ := List.mem_map.mp hxk
      have S14 := S13.draw d13 k14
      refine rd_dGet ?_
      walk_at "rd"
      refine ⟨D, .ref a, rfl, by rw [← hDv]; exact DGet.k (k := Sum.inl (r : Int)) S14.hD, ?_⟩
      walk_at "rd"
      refine rd_putS (S14.hg _ _ _ hmG) (szLt (by rw [List.length_map]; omega)) ?_
      have hpk : putK (es.map kvN) (Sum.inr nm) (nv k) = (es ++ [(nm, k)]).map kvN := by
        rw [putK_fresh, List.map_append]
        · rfl
        · intro h
          rw [List.map_map] at h
          obtain ⟨e, he, q⟩ := List.mem_map.mp h
          exact hfr (List.mem_map.mpr ⟨e, he, Sum.inr.inj q⟩)
      rw [hpk]
      refine ⟨addE G r (nm, k), _, _, _, _, _, _, by rw [rms_add]; exact S14.put_e ndr hmG (nm, k), (d14.put (o := .dK ((es ++ [(nm, k)]).map kvN)) (fun e : d = a => (S14.nw a (List.mem_append_right _ (SS.mem_a hmG))).2 e.symm)).mono (by omega), gi.link hrm hnm (fun a' es' h => ?_) hk, rfl⟩
      obtain ⟨e1, e2⟩ := num_inj ndr hmG h
      rw [← e2]
      exact hfr
    · clear S8 d8 gi
      rintro σ H9 ⟨G, x8, x9, x10, x11, x12, x13, S, dk, gi, rfl⟩
      have ndr : (rms G).Nodup := (List.nodup_append.mp gi.nd).1
      have c2 : v + tn.toNat ≤ n + 2 := by omega
      walk_at "rd"
      refine rd_forV (by with_unfolding_all rfl) (.inl S.hr) (fun i σ H' => ∃ (s' : Sto) (x8 x9 x10 x11 x12 x13 : Option V), SS d H u nA rA D oA ks (rms G) (O.map (·.1)) G s' H' ∧ Dk d (m + 600) H' ∧ s'.length = l + 1 ∧
        (∀ k nd, s'[k]? = some (some nd) ↔ (k, nd) ∈ O ∨ ∃ a es, (k, a, es) ∈ G ∧ k ∈ (rms G).take i ∧ nd = .room (srtE es)) ∧
        σ = [some (.ref d), some (.int n), some (.int v), some (.ref u), some (.ref nA), some (.ref rA), some (.ref D), some (.ref oA), x8, x9, x10, x11, x12, x13])
        ⟨s, _, _, _, _, _, _, S, dk.mono (by omega), ls, fun k nd => (hs k nd).trans ⟨.inl, fun h => h.resolve_right fun ⟨_, _, _, h, _⟩ => nomatch h⟩, rfl⟩ ?_ ?_ ?_
      · rintro i σ H' ⟨_, _, _, _, _, _, _, S', _⟩ o e
        rw [S.hr] at e
        cases e
        exact S'.hr
      · rintro i x σ H10 hx ⟨s', x8, x9, x10, x11, x12, x13, S, dk, ls, hs', rfl⟩
        rw [List.getElem?_map] at hx
        obtain ⟨r, hr, rfl⟩ := Option.map_eq_some_iff.mp hx
        obtain ⟨a, es, hmG⟩ := rms_mem.mp (List.mem_of_getElem? hr)
        have hDv := val_G ndr hmG
        have hga := S.hg _ _ _ hmG
        have rl := gi.lt r (List.mem_append_left _ (List.mem_of_getElem? hr))
        have grow : (rms G).take (i + 1) = (rms G).take i ++ [r] := by rw [List.take_add_one, hr]; rfl
        walk_at "rd"
        refine rd_dGet ?_
        walk_at "rd"
        refine ⟨D, .ref a, rfl, by rw [← hDv]; exact DGet.k (k := Sum.inl (r : Int)) S.hD, .inr (.inr (.inl ⟨rfl, .inl ⟨_, hga⟩⟩)), a, _, rfl, rfl, hga, fun p hp => ?_⟩
        have s11 := (Same.refl H10).new (o := L2.DX.itemsO p a) hp
        walk_at "rd"
        refine ⟨p, a, es.map (fun e => (e.1, (e.2 : Int))), rfl, upd_same, by rw [s11 _ _ hga, List.map_map]; rfl, fun H12 lA ps s12 hlA hps eps hz => ?_⟩
        rw [srt_ints] at eps
        have s1012 := s11.trans s12
        walk_at "rd"
        refine ⟨lA, _, rfl, SqL.of hps, fun tA o od htA => ?_⟩
        have s13 := (Same.refl H12).new (o := .frz o (.tup (ps.map fun z => V.ref z.1))) htA
        walk_at "rd"
        intro t2 ht2
        have s14 := s13.new (o := .tup [V.str "room", V.ref tA]) ht2
        have s1014 := s1012.trans s14
        have S14 := S.same s1014
        have d14 := dk.same s1014
        obtain ⟨xs, hxs, pxs⟩ := S14.hn
        have lxs := Paired.length pxs
        walk_at "rd"
        refine rd_setL hxs (ixN_nat (by omega)) ?_
        have at_ : NdAt (upd (upd H12 tA (.frz o (.tup (ps.map fun z => V.ref z.1)))) t2 (.tup [V.str "room", V.ref tA])) (.ref t2) (some (.room (srtE es))) := by
          refine ⟨t2, tA, rfl, Rt.of upd_same, _, ⟨o, od, ?_⟩, pd_entries eps fun z hz' => s14 _ _ (hz z hz')⟩
          have e : tA ≠ t2 := fun e => by rw [← e, upd_same] at ht2; cases ht2
          rw [upd_ne e]
          exact upd_same
        refine ⟨s'.set r (some (.room (srtE es))), _, _, _, _, _, _, S14.set_n hxs r at_, d14.put (fun e : d = nA => (S14.nw nA (by simp)).2 e.symm), by rw [List.length_set]; exact ls, fun k nd => ?_, rfl⟩
        rw [List.getElem?_set, grow]
        by_cases hrk : r = k
        · subst hrk
          rw [if_pos rfl, if_pos (by omega)]
          constructor
          · intro h
            cases h
            exact .inr ⟨a, es, hmG, List.mem_append_right _ (List.mem_singleton.mpr rfl), rfl⟩
          · rintro (h | ⟨a', es', h, _, rfl⟩)
            · exact absurd (List.mem_map.mpr ⟨_, h, rfl⟩) (fun h2 => (List.nodup_append.mp gi.nd).2.2 r (List.mem_of_getElem? hr) r h2 rfl)
            · rw [(num_inj ndr hmG h).2]
        · rw [if_neg hrk, hs']
          constructor
          · rintro (h | ⟨a', es', h1, h2, h3⟩)
            · exact .inl h
            · exact .inr ⟨a', es', h1, List.mem_append_left _ h2, h3⟩
          · rintro (h | ⟨a', es', h1, h2, h3⟩)
            · exact .inl h
            · rcases List.mem_append.mp h2 with h2 | h2
              · exact .inr ⟨a', es', h1, h2, h3⟩
              · exact absurd (List.mem_singleton.mp h2).symm hrk
      · rintro σ H10 ⟨s', x8, x9, x10, x11, x12, x13, S, dk, ls, hs', rfl⟩
        rw [List.length_map, List.take_length] at hs'
        have hs2 : ∀ k nd, s'[k]? = some (some nd) ↔ (k, nd) ∈ O ∨ ∃ a es, (k, a, es) ∈ G ∧ nd = .room (srtE es) := fun k nd => (hs' k nd).trans
          ⟨fun h => h.imp id fun ⟨a, es, h1, _, h3⟩ => ⟨a, es, h1, h3⟩, fun h => h.imp id fun ⟨a, es, h1, h3⟩ => ⟨a, es, h1, rms_mem.mpr ⟨a, es, h1⟩, h3⟩⟩
        walk_at "rd"
        refine rd_while (fun mm σ H' => ∃ s' : Sto, mm = s'.length ∧ SS d H u nA rA D oA ks (rms G) (O.map (·.1)) G s' H' ∧ Dk d (m + 600) H' ∧ s'.length ≤ l + 1 ∧ (∀ k nd, s'[k]? = some (some nd) ↔ (k, nd) ∈ O ∨ ∃ a es, (k, a, es) ∈ G ∧ nd = .room (srtE es)) ∧
          σ = [some (.ref d), some (.int n), some (.int v), some (.ref u), some (.ref nA), some (.ref rA), some (.ref D), some (.ref oA), x8, x9, x10, x11, x12, x13]) (l + 1) ⟨s', ls.symm, S, dk, Nat.le_of_eq ls, hs2, rfl⟩ ?_
        clear S dk ls hs' hs2
        rintro mm σ H11 ⟨s', rfl, S, dk, ls, hs2, rfl⟩
        obtain ⟨xs, hxs, pxs⟩ := S.hn
        have lxs := Paired.length pxs
        obtain ⟨a0, es0, h00⟩ := rms_mem.mp gi.g0
        have hroot := (hs2 0 _).mpr (.inr ⟨a0, es0, h00, rfl⟩)
        have l0 := (List.getElem?_eq_some_iff.mp hroot).1
        obtain ⟨sl, y, rfl⟩ : ∃ sl y, s' = sl ++ [y] := by
          rcases List.eq_nil_or_concat s' with rfl | ⟨sl, y, rfl⟩
          · cases l0
          · exact ⟨sl, y, List.concat_eq_append⟩
        obtain ⟨xl, z, rfl⟩ : ∃ xl z, xs = xl ++ [z] := by
          rcases List.eq_nil_or_concat xs with rfl | ⟨xl, z, rfl⟩
          · rw [← lxs] at l0; cases l0
          · exact ⟨xl, z, List.concat_eq_append⟩
        rw [List.length_append, List.length_append] at lxs
        have lxl : xl.length = sl.length := by simpa using lxs
        have hz : (xl ++ [z])[sl.length]? = some z := by rw [← lxl, List.getElem?_append_right (Nat.le_refl _), Nat.sub_self]; rfl
        have hy : (sl ++ [y])[sl.length]? = some y := by rw [List.getElem?_append_right (Nat.le_refl _), Nat.sub_self]; rfl
        obtain ⟨y', hy', atz⟩ := pd_getL pxs hz
        rw [hy] at hy'
        cases hy'
        walk_at "rd"
        refine ⟨1, rfl, ?_⟩
        refine rd_ixL (SqL.of hxs) (atI_last _ _) ?_
        walk_at "rd"
        rw [atz.non]
        cases y with
        | none =>
          rw [show (none : Option Nd).isNone = true from rfl]
          refine rd_yT ?_
          refine rd_turn ?_
          walk_at "rd"
          refine rd_tyL (SqL.of hxs) ?_
          refine rd_pop hxs ?_
          have psl : Paired (NdAt H11) xl sl := by
            have := pd_take sl.length pxs
            rwa [List.take_left' lxl, List.take_left' rfl] at this
          refine ⟨sl.length, by rw [List.length_append]; exact Nat.lt_succ_self _, sl, rfl, S.pop_n ⟨_, hxs⟩ psl, dk.put (fun e : d = nA => (S.nw nA (by simp)).2 e.symm), by rw [List.length_append] at ls; omega, fun k nd => ?_, rfl⟩
          rw [← hs2]
          constructor
          · intro h
            rw [List.getElem?_append_left (List.getElem?_eq_some_iff.mp h).1]
            exact h
          · intro h
            by_cases hk : k < sl.length
            · rwa [List.getElem?_append_left hk] at h
            · rw [List.getElem?_append_right (by omega)] at h
              cases e : k - sl.length with
              | zero => rw [e] at h; cases h
              | succ j => rw [e] at h; cases h
        | some nd =>
          rw [show (some nd : Option Nd).isNone = false from rfl]
          walk_at "rd"
          refine ⟨nA, _, rfl, SqL.of hxs, fun tA o od htA => ?_⟩
          have s12 := (Same.refl H11).new (o := .frz o (.tup (xl ++ [z]))) htA
          have lss : (sl ++ [some nd]).length = sl.length + 1 := by rw [List.length_append]; rfl
          obtain ⟨wf, few⟩ := wf_of gi (by omega) hO hs2 (by omega) ⟨nd, by rw [lss, Nat.add_sub_cancel]; exact hy⟩
          refine q (.ref tA) _ _ ⟨tA, _, rfl, Ft.rt ⟨o, od, upd_same⟩, pd_mono (fun _ _ q => NdAt.up q (Ty.of s12)) pxs⟩ wf (by omega) (fun r => Nat.le_trans (few r) c2) ((dk.same s12).mono (by omega)) (S.kp.trans (Kp.of s12))

/-! ## Patterns: what stands between the brackets, the pieces -/
def BADS : Str := "[]!-"
def bad (c : Nat) : Bool := decide (c ∈ tl BADS)
/-- the high sign behind a low one, and what is left -/
def hiOf (c : Nat) (r : List Nat) : List Nat × List Nat := if r.take 1 = [45] then ((r.drop 1).take 1, r.drop 2) else ([c], r)
theorem hiOf_le (c : Nat) (r : List Nat) : (hiOf c r).2.length ≤ r.length := by
  unfold hiOf
  split
  · rw [List.length_drop]; exact Nat.sub_le _ _
  · exact Nat.le_refl _
theorem hiOf_one (c : Nat) (r : List Nat) : (hiOf c r).1.length ≤ 1 := by
  unfold hiOf
  split
  · rw [List.length_take]; omega
  · exact Nat.le_refl _
def itemOk (c : Nat) : List Nat → Bool
  | [h] => !(bad c || bad h || decide (h < c))
  | _ => false
def itemsN : Nat → List Nat → Option (List (Nat × List Nat))
  | _, [] => some []
  | 0, _ => none
  | n + 1, c :: r => if itemOk c (hiOf c r).1 = true then (itemsN n (hiOf c r).2).map ((c, (hiOf c r).1) :: ·) else none
theorem itemsN_more : ∀ {n m : Nat} {l : List Nat}, l.length ≤ n → l.length ≤ m → itemsN n l = itemsN m l
  | n, m, [], _, _ => by cases n <;> cases m <;> rfl
  | 0, _, c :: r, h, _ => by cases h
  | _, 0, c :: r, _, h => by cases h
  | n + 1, m + 1, c :: r, h1, h2 => by
    have h3 := hiOf_le c r
    rw [List.length_cons] at h1 h2
    show (if _ then _ else _) = (if _ then _ else _)
    rw [itemsN_more (n := n) (m := m) (l := (hiOf c r).2) (by omega) (by omega)]
/-- the items of a set, each a low sign and (a row of) the high one -/
def itemsL (l : List Nat) : Option (List (Nat × List Nat)) := itemsN l.length l
theorem itemsL_nil : itemsL [] = some [] := rfl
theorem itemsL_cons (c : Nat) (r : List Nat) : itemsL (c :: r) = if itemOk c (hiOf c r).1 = true then (itemsL (hiOf c r).2).map ((c, (hiOf c r).1) :: ·) else none := by
  have h3 := hiOf_le c r
  show (if _ then _ else _) = _
  rw [itemsN_more (n := r.length) (m := (hiOf c r).2.length) h3 (Nat.le_refl _)]
  rfl
inductive Tk where
  | any | one | sign (c : Nat) | set (neg : Bool) (its : List (Nat × List Nat))
def negOf (s : List Nat) : Bool := decide (s.take 1 = [33])
/-- what stands behind [: the set, what is left -/
def setL (s : List Nat) : Option (Tk × List Nat) := match cutAt 93 s with
  | none => none
  | some (b, t) => match itemsL (b.drop (if negOf s then 1 else 0)) with
    | some (i :: is) => some (.set (negOf s) (i :: is), t)
    | _ => none
theorem setL_lt {s : List Nat} {k : Tk} {t : List Nat} (h : setL s = some (k, t)) : t.length < s.length := by
  unfold setL at h
  split at h
  · cases h
  · rename_i b t' e
    obtain ⟨e1, _⟩ := cutAt_some e
    split at h
    · cases h
      rw [e1, List.length_append, List.length_cons]
      omega
    · cases h
def tkOf (c : Nat) : Tk := if c = 42 then .any else if c = 63 then .one else .sign c
/-- one piece, what is left -/
def tokStep (c : Nat) (r : List Nat) : Option (Tk × List Nat) := if c = 91 then setL r else some (tkOf c, r)
theorem tokStep_le {c : Nat} {r t : List Nat} {k : Tk} (h : tokStep c r = some (k, t)) : t.length ≤ r.length := by
  unfold tokStep at h
  split at h
  · exact Nat.le_of_lt (setL_lt h)
  · cases h; exact Nat.le_refl _
def toksN : Nat → List Nat → Option (List Tk)
  | _, [] => some []
  | 0, _ => none
  | n + 1, c :: r => match tokStep c r with
    | none => none
    | some (k, t) => (toksN n t).map (k :: ·)
theorem toksN_more : ∀ {n m : Nat} {l : List Nat}, l.length ≤ n → l.length ≤ m → toksN n l = toksN m l
  | n, m, [], _, _ => by cases n <;> cases m <;> rfl
  | 0, _, c :: r, h, _ => by cases h
  | _, 0, c :: r, _, h => by cases h
  | n + 1, m + 1, c :: r, h1, h2 => by
    rw [List.length_cons] at h1 h2
    unfold toksN
    cases e : tokStep c r with
    | none => rfl
    | some p =>
      obtain ⟨k, t⟩ := p
      have h3 := tokStep_le e
      show (toksN n t).map _ = (toksN m t).map _
      rw [toksN_more (n := n) (m := m) (l := t) (by omega) (by omega)]
/-- the pieces of a pattern -/
def toks (l : List Nat) : Option (List Tk) := toksN l.length l
theorem toks_nil : toks [] = some [] := rfl
theorem toks_cons (c : Nat) (r : List Nat) : toks (c :: r) = (match tokStep c r with | none => none | some (k, t) => (toks t).map (k :: ·)) := by
  show toksN (r.length + 1) (c :: r) = _
  unfold toksN
  cases e : tokStep c r with
  | none => rfl
  | some p =>
    obtain ⟨k, t⟩ := p
    have h3 := tokStep_le e
    show (toksN r.length t).map _ = (toks t).map _
    unfold toks
    rw [toksN_more (n := r.length) (m := t.length) (l := t) h3 (Nat.le_refl _)]
theorem toks_step {c : Nat} {r t : List Nat} {k : Tk} (h : tokStep c r = some (k, t)) : toks (c :: r) = (toks t).map (k :: ·) := by rw [toks_cons, h]
theorem toks_stop {c : Nat} {r : List Nat} (h : tokStep c r = none) : toks (c :: r) = none := by rw [toks_cons, h]
def ItAt (H : Hp) (v : V) (p : Nat × List Nat) : Prop := ∃ (t : Addr) (h : Str), v = .ref t ∧ tl h = p.2 ∧ H t = some (.tup [.str ⟨#[p.1]⟩, .str h])
theorem ItAt.mono {H H' : Hp} {v : V} {p : Nat × List Nat} (e : Same H H') (h : ItAt H v p) : ItAt H' v p := by
  obtain ⟨t, s, h1, h2, h3⟩ := h
  exact ⟨t, s, h1, h2, e _ _ h3⟩
def TkAt (H : Hp) (v : V) : Tk → Prop
  | .any => ∃ t, v = .ref t ∧ H t = some (.tup [.str "any"])
  | .one => ∃ t, v = .ref t ∧ H t = some (.tup [.str "one"])
  | .sign c => ∃ t, v = .ref t ∧ H t = some (.tup [.str "sign", .str ⟨#[c]⟩])
  | .set neg its => ∃ t l xs, v = .ref t ∧ H t = some (.tup [.str "set", .bl neg, .ref l]) ∧ H l = some (.lst xs) ∧ Paired (ItAt H) xs its
theorem its_mono {H H' : Hp} (e : Same H H') {xs : List V} {ps : List (Nat × List Nat)} (h : Paired (ItAt H) xs ps) : Paired (ItAt H') xs ps := L2.Paired.mapP h fun _ _ q => q.mono e
theorem TkAt.mono {H H' : Hp} {v : V} {k : Tk} (e : Same H H') (h : TkAt H v k) : TkAt H' v k := by
  cases k with
  | any => obtain ⟨t, h1, h2⟩ := h; exact ⟨t, h1, e _ _ h2⟩
  | one => obtain ⟨t, h1, h2⟩ := h; exact ⟨t, h1, e _ _ h2⟩
  | sign c => obtain ⟨t, h1, h2⟩ := h; exact ⟨t, h1, e _ _ h2⟩
  | set n i => obtain ⟨t, l, xs, h1, h2, h3, h4⟩ := h; exact ⟨t, l, xs, h1, e _ _ h2, e _ _ h3, its_mono e h4⟩
theorem tks_mono {H H' : Hp} (e : Same H H') {xs : List V} {ks : List Tk} (h : Paired (TkAt H) xs ks) : Paired (TkAt H') xs ks := L2.Paired.mapP h fun _ _ q => q.mono e
def Φ_items_of (K : PySem.W.Frag) (v : V) (H : Hp) (Q : VK) : Prop := ∃ z : Str, v = .str z ∧ z.length ≤ 1000 ∧
  (itemsL (tl z) = none ∨ itemsL (tl z) = some [] → ∀ H', Same H H' → Q .non H') ∧
  ∀ i is, itemsL (tl z) = some (i :: is) → ∀ (H' : Hp) (l : Addr) (xs : List V), Same H H' → nw H H' l = some (.lst xs) → Paired (ItAt (nw H H')) xs (i :: is) → Q (.ref l) H'
theorem bad_in (s : Str) (c : Nat) (h : tl s = [c]) : inS s BADS = bad c := by
  have : s = ⟨#[c]⟩ := str_ext h
  rw [this, inS_sign]
  rfl
theorem lt_sign (a b : Nat) : decide ([a] < [b]) = decide (a < b) := by
  refine decide_eq_decide.mpr ?_
  rw [List.cons_lt_cons_iff]
  constructor
  · rintro (h | ⟨_, h⟩)
    · exact h
    · exact absurd h (List.not_lt_nil _)
  · exact Or.inl
theorem ok_items_of (T : Txt P K mg) {f : Addr} {fd : FuncData} (F : Fun K "items_of" "items_of" s_items_of f fd) : Keeps P w K mg base CX0 1 f fd ["body"] (sp1 (Φ_items_of K)) := by
  refine keeps0_of F sc_items_of (fun vs H Q E h => ?_) (fun cdv A outer s H vs Q E hr h => ?_)
  · obtain ⟨_, rfl, _⟩ := h
    rfl
  obtain ⟨v_body, rfl, h⟩ := h
  have hu := hr.hu
  refine ⟨_, (pss_cons (ps_par (i := 1) (j := 2) rfl sc_items_of.nd rfl rfl (by decide) rfl rfl (pa_cons (pe_lst pa_nil) (pa_cons pe_int pa_nil)) (by rfl))
      (pss_cons (ps_while PassesOwn.never (pt_cmpR oLt (pv 2) (pe_callB (call_lenX (K := K)) (by rfl) T.b_len (by decide +kernel) (pa_cons (pv 0) pa_nil)) (nomark _)) (pss_cons (ps_par (i := 3) (j := 4) rfl sc_items_of.nd rfl rfl (by decide) rfl rfl (pa_cons (pe_ix (ixX (K := K)) (pv 0) (pv 2) (fun _ _ => rfl)) (pa_cons (pe_ix (ixX (K := K)) (pv 0) (pv 2) (fun _ _ => rfl)) pa_nil)) (by rfl))
      (pss_cons (ps_aug (i := 2) sc_items_of.nd rfl (by first | exact Or.inl rfl | exact Or.inr rfl) pe_int ip_add)
      (pss_meet (ps_if (pt_cmpR (oEq (K := K) hr.u65) (pe_slice (sX (K := K)) (pv 0) (po_some (pv 2)) (po_some (pe_op (oAdd (K := K)) (pv 2) pe_int))) pe_str (nomark _)) (pss_cons (ps_set (i := 4) sc_items_of.nd rfl (by first | exact Or.inl rfl | exact Or.inr rfl) (pe_slice (sX (K := K)) (pv 0) (po_some (pe_op (oAdd (K := K)) (pv 2) pe_int)) (po_some (pe_op (oAdd (K := K)) (pv 2) pe_int))))
      (pss_one (ps_aug (i := 2) sc_items_of.nd rfl (by first | exact Or.inl rfl | exact Or.inr rfl) pe_int ip_add))) pss_nil)
      (pss_cons (ps_if (PW.pt (pw_or (pt_cmpR (oEq (K := K) hr.u65) (pv 4) pe_str (nomark _)) (pw_or (pt_cmpR (oIn (K := K) hr.u65) (pv 3) (pe_gk (by rfl) T.c_NO_ITEMS) (by rfl)) (pw_or (pt_cmpR (oIn (K := K) hr.u65) (pv 4) (pe_gk (by rfl) T.c_NO_ITEMS) (by rfl)) (pw_or1 (pt_cmpR oLt (pv 4) (pv 3) (nomark _))))))) (pss_one (ps_ret pe_non)) pss_nil)
      (pss_one (ps_expr (pe_bmX (K := K) PySem.F.plainAttrs_list PySem.F.slot_list_append PySem.F.type_list_append mt_append (pv 1) (pa_cons (pe_tup (pa_cons (pv 3) (pa_cons (pv 4) pa_nil))) pa_nil)))))))))
      (pss_one (ps_ret (pe_ifExp (pt_cmpR (oNe (K := K) hr.u65) (pv 1) (pe_lst pa_nil) (nomark _)) (pv 1) pe_non))))), ?_⟩
  rw [show start ["body", "found", "at", "low", "high"] [v_body] = [some v_body, none, none, none, none] from rfl]
  try dsimp only [cxOf, Cx.nox, Cx.wish]
  obtain ⟨z, rfl, hz, q0, q1⟩ := h
  walk_at "rd"
  intro p hp
  walk_at "rd"
  refine rd_while (fun m σ H' => ∃ (i : Nat) (acc : List (Nat × List Nat)) (xs : List V) (a b : Option V), m = z.length - i ∧ xs.length ≤ i ∧ Same H H' ∧ H' p = some (.lst xs) ∧ Paired (ItAt (nw (upd H p (.lst [])) H')) xs acc ∧ itemsL (tl z) = (itemsL ((tl z).drop i)).map (acc ++ ·) ∧ σ = [some (.str z), some (.ref p), some (.int (i : Int)), a, b])
    z.length ⟨0, [], [], none, none, rfl, Nat.le_refl _, (Same.refl H).new hp, upd_same, .nil, by rw [List.drop_zero]; cases itemsL (tl z) <;> rfl, rfl⟩ ?_
  rintro m σ H1 ⟨i, acc, xs, a, b, rfl, hx, k1, h1, pr, eq, rfl⟩
  walk_at "rd"
  refine rd_ite (fun hc => ?_) (fun hc => ?_)
  rotate_left
  · have hi : z.length ≤ i := by have := of_decide_eq_false hc; omega
    rw [List.drop_of_length_le (by rw [len_tl]; exact hi), itemsL_nil, Option.map_some, List.append_nil] at eq
    walk_at "rd"
    intro l hl
    have pl : p ≠ l := ne_of_none h1 hl
    refine rd_neNil (SqL.of (by rw [upd_ne pl]; exact h1)) (SqL.of upd_same) ?_
    walk_at "rd"
    cases pr with
    | nil =>
      walk_at "rd"
      exact q0 (.inr eq) _ (k1.new hl)
    | cons r rs =>
      refine rd_yesI rfl ?_
      walk_at "rd"
      exact q1 _ _ eq _ _ _ (k1.new hl) (nw_get hp (by rw [upd_ne pl]; exact h1)) (its_mono ((nw_base (Sub.refl H).upd).trans (nw_mono ((Same.refl H1).new (o := .lst []) hl))) (.cons r rs))
  have hi : i < z.length := by have := of_decide_eq_true hc; omega
  refine rd_turn ?_
  obtain ⟨c, r, hr'⟩ : ∃ c r, (tl z).drop i = c :: r := by
    cases e : (tl z).drop i with
    | nil => have := congrArg List.length e; rw [List.length_drop, len_tl] at this; simp at this; omega
    | cons c r => exact ⟨c, r, rfl⟩
  obtain ⟨hg, _, hd⟩ := drop_ne hr'
  rw [hr', itemsL_cons] at eq
  walk_at "rd"
  refine rd_ixS (c := c) (szOk (by omega)) (atI_nat hg) ?_
  walk_at "rd"
  refine rd_ixS (c := c) (szOk (by omega)) (atI_nat hg) ?_
  walk_at "rd"
  refine rd_meet (fun σ' H' => H1 = H' ∧ ∃ (j : Nat) (s : Str), i < j ∧ tl s = (hiOf c r).1 ∧ (tl z).drop j = (hiOf c r).2 ∧ σ' = [some (.str z), some (.ref p), some (.int (j : Int)), some (.str ⟨#[c]⟩), some (.str s)]) ?_ ?_
  · walk_at "rd"
    rw [dec_tl, show ((i : Int) + 1 + 1) = ((i + 2 : Nat) : Int) by omega, show ((i : Int) + 1) = ((i + 1 : Nat) : Int) by omega, tl_mid _ _ _ (by omega), hd, show i + 2 - (i + 1) = 1 by omega, show tl ("-" : Str) = [45] by decide +kernel]
    refine rd_ite (fun h2 => ?_) (fun h2 => ?_)
    · have h2 := of_decide_eq_true h2
      walk_at "rd"
      refine ⟨rfl, i + 3, _, by omega, ?_, ?_, by simp only [List.set]; rfl⟩
      · rw [show (((i + 1 : Nat) : Int) + 1) = ((i + 2 : Nat) : Int) by omega, show (((i + 1 : Nat) : Int) + 2) = ((i + 3 : Nat) : Int) by omega, tl_mid _ _ _ (by omega)]
        unfold hiOf
        rw [if_pos h2, ← hd, List.drop_drop, show i + 3 - (i + 2) = 1 by omega]
      · unfold hiOf
        rw [if_pos h2, ← hd]
        show _ = List.drop 2 (List.drop (i + 1) (tl z))
        rw [List.drop_drop]
    · have h2 := of_decide_eq_false h2
      walk_at "rd"
      refine ⟨rfl, i + 1, ⟨#[c]⟩, by omega, ?_, ?_, rfl⟩
      · unfold hiOf
        rw [if_neg h2]
      · unfold hiOf
        rw [if_neg h2]
        exact hd
  rintro _ _ ⟨rfl, j, s, hj, hs, hdj, rfl⟩
  have hl1 := hiOf_one c r
  rw [← hs, ← hdj] at eq
  rw [← hs] at hl1
  clear hs hdj
  have inv (hok : itemOk c (tl s) = false) : itemsL (tl z) = none := by rw [eq, hok]; rfl
  walk_at "rd"
  rw [dec_tl, show tl ("" : Str) = [] by decide +kernel]
  cases es : tl s with
  | nil =>
    rw [es] at inv
    walk_at "rd"
    exact q0 (.inl (inv rfl)) _ k1
  | cons h t =>
  have ht : t = [] := by
    cases t with
    | nil => rfl
    | cons _ _ => rw [es] at hl1; exact absurd hl1 (by simp)
  subst ht
  have hok : itemOk c [h] = !(bad c || bad h || decide (h < c)) := rfl
  rw [es, hok] at eq
  rw [decide_eq_false (List.cons_ne_nil h [])]
  walk_at "rd"
  rw [show inS ⟨#[c]⟩ "[]!-" = bad c from bad_in _ _ rfl]
  refine rd_ite (fun h3 => ?_) (fun h3 => ?_)
  · walk_at "rd"
    rw [h3] at eq
    exact q0 (.inl eq) _ k1
  walk_at "rd"
  rw [show inS s "[]!-" = bad h from bad_in _ _ es]
  refine rd_ite (fun h4 => ?_) (fun h4 => ?_)
  · walk_at "rd"
    rw [h3, h4] at eq
    exact q0 (.inl eq) _ k1
  walk_at "rd"
  rw [show s.cps.toList = [h] from es, show (⟨#[c]⟩ : Str).cps.toList = [c] from rfl, lt_sign]
  rw [h3, h4] at eq
  refine rd_ite (fun h5 => ?_) (fun h5 => ?_)
  · walk_at "rd"
    rw [h5] at eq
    exact q0 (.inl eq) _ k1
  rw [h5] at eq
  walk_at "rd"
  refine rd_tyL (SqL.of h1) ?_
  walk_at "rd"
  intro t ht
  have pt : p ≠ t := ne_of_none h1 ht
  have k2 : Same H1 (upd H1 t (.tup [.str ⟨#[c]⟩, .str s])) := (Same.refl H1).new ht
  walk_at "rd"
  refine rd_app (k2 _ _ h1) (szLt (by omega)) ?_
  refine ⟨_, by omega, j, acc ++ [(c, [h])], xs ++ [.ref t], _, _, rfl, by rw [List.length_append]; simp; omega, (k1.new ht).put hp, upd_same, ?_, ?_, rfl⟩
  · have kk : Same (nw (upd H p (.lst [])) H1) (nw (upd H p (.lst [])) (upd (upd H1 t (.tup [.str ⟨#[c]⟩, .str s])) p (.lst (xs ++ [.ref t])))) := (nw_mono k2).trans (nw_put upd_same)
    refine PySem.Paired.snoc (its_mono kk pr) ⟨t, s, rfl, es, nw_get ?_ (by rw [upd_ne pt.symm]; exact upd_same)⟩
    rw [upd_ne pt.symm]
    exact Sub.of k1 _ ht
  · rw [eq]
    cases itemsL ((tl z).drop j) with
    | none => rfl
    | some l => show some (acc ++ (c, [h]) :: l) = some (acc ++ [(c, [h])] ++ l); rw [List.append_assoc]; rfl
def Φ_set_at (K : PySem.W.Frag) (vp va : V) (H : Hp) (Q : VK) : Prop := ∃ (z : Str) (k : Nat) (s : List Nat), vp = .str z ∧ va = .int (k : Int) ∧ z.length ≤ 1000 ∧ (tl z).drop k = 91 :: s ∧
  (setL s = none → ∀ H', Same H H' → Q .non H') ∧
  ∀ tk t, setL s = some (tk, t) → ∀ (H' : Hp) (p : Addr) (v : V) (e : Nat), Same H H' → H' p = some (.tup [v, .int (e : Int)]) → TkAt (nw H H') v tk → k < e → e ≤ z.length → (tl z).drop e = t → Q (.ref p) H'
theorem cut93 (s : List Nat) : cutAt 93 (91 :: s) = (cutAt 93 s).map fun p => (91 :: p.1, p.2) := by
  show (if _ then _ else _) = _
  rw [if_neg (by decide)]
theorem ok_set_at (T : Txt P K mg) {f : Addr} {fd : FuncData} (F : Fun K "set_at" "set_at" s_set_at f fd) : Keeps P w K mg base CX0 2 f fd ["pattern", "at"] (sp2 (Φ_set_at K)) := by
  have c_items_of := cal (P := P) (w := w) (base := base) T.d_items_of fun F => ok_items_of T F
  refine keeps0_of F sc_set_at (fun vs H Q E h => ?_) (fun cdv A outer s H vs Q E hr h => ?_)
  · obtain ⟨_, _, rfl, _⟩ := h
    rfl
  obtain ⟨v_pattern, v_at, rfl, h⟩ := h
  have hu := hr.hu
  refine ⟨_, (pss_cons (ps_set (i := 2) sc_set_at.nd rfl (by first | exact Or.inl rfl | exact Or.inr rfl) (pe_bmX (K := K) PySem.F.plainAttrs_str PySem.F.slot_str_find PySem.F.type_str_find mt_find3 (pv 0) (pa_cons pe_str (pa_cons (pv 1) pa_nil))))
      (pss_cons (ps_if (pt_cmpR oLt (pv 2) pe_int (nomark _)) (pss_one (ps_ret pe_non)) pss_nil)
      (pss_cons (ps_set (i := 3) sc_set_at.nd rfl (by first | exact Or.inl rfl | exact Or.inr rfl) (pe_cmpR (oEq (K := K) hr.u65) (pe_ix (ixX (K := K)) (pv 0) (pe_op (oAdd (K := K)) (pv 1) pe_int) (fun _ _ => rfl)) pe_str (nomark _)))
      (pss_cons (ps_set (i := 4) sc_set_at.nd rfl (by first | exact Or.inl rfl | exact Or.inr rfl) (pe_cal c_items_of (hr.mono (by decide)) (by rfl) pass0 (pa_cons (pe_slice (sX (K := K)) (pv 0) (po_some (pe_op (oAdd (K := K)) (pe_op (oAdd (K := K)) (pv 1) pe_int) (pe_callTy call_intX (by rfl) T.b_int (by decide +kernel) (pa_cons (pv 3) pa_nil)))) (po_some (pv 2))) pa_nil)))
      (pss_one (ps_ret (pe_ifExp (pt_cmpR oIs (pv 4) pe_non (nomark _)) pe_non (pe_tup (pa_cons (pe_tup (pa_cons (pe_gk (by rfl) T.c_SET) (pa_cons (pv 3) (pa_cons (pv 4) pa_nil)))) (pa_cons (pe_op (oAdd (K := K)) (pv 2) pe_int) pa_nil)))))))))), ?_⟩
  rw [show start ["pattern", "at", "end", "is_none_of", "items"] [v_pattern, v_at] = [some v_pattern, some v_at, none, none, none] from rfl]
  try dsimp only [cxOf, Cx.nox, Cx.wish]
  obtain ⟨z, k, s, rfl, rfl, hz, hk, q0, q1⟩ := h
  have lz := len_tl z
  obtain ⟨_, hk1, hk2⟩ := drop_ne hk
  have fnd := find_cut z 93 k
  rw [hk, cut93] at fnd
  cases ec : cutAt 93 s with
  | none =>
    rw [ec] at fnd
    have fnd : Txt.find3 z ⟨#[93]⟩ (k : Int) = -1 := fnd
    walk_at "rd"
    refine ⟨_, _, _, rfl, rfl, ?_⟩
    rw [show ("]" : Str) = ⟨#[93]⟩ from by decide +kernel, fnd]
    walk_at "rd"
    refine rd_yesI (by decide) ?_
    walk_at "rd"
    have e : setL s = none := by unfold setL; rw [ec]
    exact q0 e H (Same.refl H)
  | some bt =>
  obtain ⟨b, t⟩ := bt
  obtain ⟨e1, e2⟩ := cutAt_some ec
  rw [ec] at fnd
  have fnd : Txt.find3 z ⟨#[93]⟩ (k : Int) = ((k + (b.length + 1) : Nat) : Int) := fnd
  rw [show k + (b.length + 1) = k + 1 + b.length by omega] at fnd
  have le : k + 1 + b.length < z.length := by
    have := congrArg List.length hk
    rw [List.length_drop, lz, List.length_cons, e1, List.length_append, List.length_cons] at this
    omega
  obtain ⟨x, y, ex⟩ : ∃ x y, s = x :: y := by
    cases b with
    | nil => exact ⟨_, _, e1⟩
    | cons a b => exact ⟨_, _, e1⟩
  have hx : (tl z)[k + 1]? = some x := by
    have : ((tl z).drop (k + 1))[0]? = some x := by rw [hk2, ex]; rfl
    rwa [List.getElem?_drop, Nat.add_zero] at this
  have hneg : decide ((⟨#[x]⟩ : Str) = "!") = negOf s := by
    rw [dec_tl, show tl ("!" : Str) = [33] by decide +kernel, tl_sg, ex]
    rfl
  generalize hn : (if negOf s then 1 else 0 : Nat) = n
  have hn1 : n ≤ b.length := by
    cases hs : negOf s with
    | false => rw [hs] at hn; have : n = 0 := hn.symm; omega
    | true =>
      cases b with
      | nil =>
        rw [e1] at hs
        have : decide ([93] = [33]) = true := hs
        exact absurd this (by decide)
      | cons a b =>
        rw [hs] at hn
        have : n = 1 := hn.symm
        rw [List.length_cons]
        omega
  have key : tl (cutS z (some ((k + 1 + n : Nat) : Int)) (some ((k + 1 + b.length : Nat) : Int))) = b.drop n := by
    rw [tl_mid _ _ _ (by omega), ← List.drop_drop, hk2, e1, List.drop_append_of_le_length hn1, List.take_append_of_le_length (by rw [List.length_drop]; omega), List.take_of_length_le (by rw [List.length_drop]; omega)]
  have eS : setL s = match itemsL (b.drop n) with
    | some (i :: is) => some (.set (negOf s) (i :: is), t)
    | _ => none := by
    unfold setL
    rw [ec, ← hn]
  walk_at "rd"
  refine ⟨_, _, _, rfl, rfl, ?_⟩
  rw [show ("]" : Str) = ⟨#[93]⟩ from by decide +kernel, fnd]
  walk_at "rd"
  refine rd_noI (decide_eq_false (by omega)) ?_
  walk_at "rd"
  rw [show (k : Int) + 1 = ((k + 1 : Nat) : Int) by omega]
  refine rd_ixS (c := x) (szOk (by omega)) (atI_nat hx) ?_
  walk_at "rd"
  rw [hneg]
  walk_at "rd"
  rw [show (k : Int) + 1 + (if negOf s = true then 1 else 0) = ((k + 1 + n : Nat) : Int) by rw [← hn]; cases negOf s <;> simp]
  refine ⟨_, rfl, Nat.le_trans (cutS_length _ _ _) hz, ?_, ?_⟩
  · rw [key]
    intro h H1 k1
    walk_at "rd"
    rw [decide_eq_true rfl]
    walk_at "rd"
    refine q0 ?_ H1 k1
    rw [eS]
    rcases h with h | h <;> rw [h]
  · rw [key]
    intro i is h H1 l xs k1 h1 pr
    rw [h] at eS
    walk_at "rd"
    rw [decide_eq_false (fun e => nomatch e)]
    walk_at "rd"
    intro t1 ht1
    walk_at "rd"
    intro t2 ht2
    have k2 := (Same.refl H1).new (o := .tup [.str "set", .bl (negOf s), .ref l]) ht1
    have k3 := (Same.refl (upd H1 t1 (.tup [.str "set", .bl (negOf s), .ref l]))).new (o := .tup [.ref t1, .int ((k + 1 + b.length + 1 : Nat) : Int)]) ht2
    refine q1 _ t eS _ _ _ (k + 1 + b.length + 1) ((k1.trans k2).trans k3) upd_same ⟨t1, l, xs, rfl, nw_get (Sub.of k1 _ ht1) (k3 _ _ upd_same), nw_mono (k2.trans k3) _ _ h1, its_mono (nw_mono (k2.trans k3)) pr⟩ (by omega) (by omega) ?_
    rw [show k + 1 + b.length + 1 = k + 1 + (b.length + 1) by omega, ← List.drop_drop, hk2, e1, ← List.drop_drop, List.drop_left]
    rfl
def Φ_tokens_of (K : PySem.W.Frag) (v : V) (H : Hp) (Q : VK) : Prop := ∃ z : Str, v = .str z ∧ z.length ≤ 1000 ∧
  (toks (tl z) = none → ∀ H', Same H H' → Q .non H') ∧
  ∀ ts, toks (tl z) = some ts → ∀ (H' : Hp) (l : Addr) (xs : List V), Same H H' → nw H H' l = some (.lst xs) → Paired (TkAt (nw H H')) xs ts → Q (.ref l) H'
theorem ok_tokens_of (T : Txt P K mg) {f : Addr} {fd : FuncData} (F : Fun K "tokens_of" "tokens_of" s_tokens_of f fd) : Keeps P w K mg base CX0 3 f fd ["pattern"] (sp1 (Φ_tokens_of K)) := by
  have c_set_at := cal (P := P) (w := w) (base := base) T.d_set_at fun F => ok_set_at T F
  refine keeps0_of F sc_tokens_of (fun vs H Q E h => ?_) (fun cdv A outer s H vs Q E hr h => ?_)
  · obtain ⟨_, rfl, _⟩ := h
    rfl
  obtain ⟨v_pattern, rfl, h⟩ := h
  have hu := hr.hu
  refine ⟨_, (pss_cons (ps_par (i := 1) (j := 2) rfl sc_tokens_of.nd rfl rfl (by decide) rfl rfl (pa_cons (pe_lst pa_nil) (pa_cons pe_int pa_nil)) (by rfl))
      (pss_cons (ps_while PassesOwn.never (pt_cmpR oLt (pv 2) (pe_callB (call_lenX (K := K)) (by rfl) T.b_len (by decide +kernel) (pa_cons (pv 0) pa_nil)) (nomark _)) (pss_cons (ps_set (i := 3) sc_tokens_of.nd rfl (by first | exact Or.inl rfl | exact Or.inr rfl) (pe_ix (ixX (K := K)) (pv 0) (pv 2) (fun _ _ => rfl)))
      (pss_one (ps_if (pt_cmpR (oEq (K := K) hr.u65) (pv 3) pe_str (nomark _)) (pss_cons (ps_set (i := 4) sc_tokens_of.nd rfl (by first | exact Or.inl rfl | exact Or.inr rfl) (pe_cal c_set_at (hr.mono (by decide)) (by rfl) pass0 (pa_cons (pv 0) (pa_cons (pv 2) pa_nil))))
      (pss_cons (ps_if (pt_cmpR oIs (pv 4) pe_non (nomark _)) (pss_one (ps_ret pe_non)) pss_nil)
      (pss_cons (ps_expr (pe_bmX (K := K) PySem.F.plainAttrs_list PySem.F.slot_list_append PySem.F.type_list_append mt_append (pv 1) (pa_cons (pe_ix (ixX (K := K)) (pv 4) pe_int (fun _ _ => rfl)) pa_nil)))
      (pss_one (ps_set (i := 2) sc_tokens_of.nd rfl (by first | exact Or.inl rfl | exact Or.inr rfl) (pe_ix (ixX (K := K)) (pv 4) pe_int (fun _ _ => rfl))))))) (pss_cons (ps_expr (pe_bmX (K := K) PySem.F.plainAttrs_list PySem.F.slot_list_append PySem.F.type_list_append mt_append (pv 1) (pa_cons (pe_ifExp (pt_cmpR (oEq (K := K) hr.u65) (pv 3) pe_str (nomark _)) (pe_tup (pa_cons (pe_gk (by rfl) T.c_ANY) pa_nil)) (pe_ifExp (pt_cmpR (oEq (K := K) hr.u65) (pv 3) pe_str (nomark _)) (pe_tup (pa_cons (pe_gk (by rfl) T.c_ONE) pa_nil)) (pe_tup (pa_cons (pe_gk (by rfl) T.c_SIGN_patterns) (pa_cons (pv 3) pa_nil))))) pa_nil)))
      (pss_one (ps_aug (i := 2) sc_tokens_of.nd rfl (by first | exact Or.inl rfl | exact Or.inr rfl) pe_int ip_add)))))))
      (pss_one (ps_ret (pv 1))))), ?_⟩
  rw [show start ["pattern", "found", "at", "sign", "told"] [v_pattern] = [some v_pattern, none, none, none, none] from rfl]
  try dsimp only [cxOf, Cx.nox, Cx.wish]
  obtain ⟨z, rfl, hz, q0, q1⟩ := h
  have lz := len_tl z
  walk_at "rd"
  intro p hp
  walk_at "rd"
  refine rd_while (fun m σ H' => ∃ (i : Nat) (acc : List Tk) (xs : List V) (a b : Option V), m = z.length - i ∧ xs.length ≤ i ∧ Same H H' ∧ H' p = some (.lst xs) ∧ Paired (TkAt (nw (upd H p (.lst [])) H')) xs acc ∧ toks (tl z) = (toks ((tl z).drop i)).map (acc ++ ·) ∧ σ = [some (.str z), some (.ref p), some (.int (i : Int)), a, b])
    z.length ⟨0, [], [], none, none, rfl, Nat.le_refl _, (Same.refl H).new hp, upd_same, .nil, by rw [List.drop_zero]; cases toks (tl z) <;> rfl, rfl⟩ ?_
  rintro m σ H1 ⟨i, acc, xs, a, b, rfl, hx, k1, h1, pr, eq, rfl⟩
  walk_at "rd"
  refine rd_ite (fun hc => ?_) (fun hc => ?_)
  rotate_left
  · have hi : z.length ≤ i := by have := of_decide_eq_false hc; omega
    rw [List.drop_of_length_le (by rw [lz]; exact hi), toks_nil, Option.map_some, List.append_nil] at eq
    walk_at "rd"
    exact q1 _ eq _ _ _ k1 (nw_get hp h1) (tks_mono (nw_base (Sub.refl H).upd) pr)
  have hi : i < z.length := by have := of_decide_eq_true hc; omega
  refine rd_turn ?_
  obtain ⟨c, r, hr'⟩ : ∃ c r, (tl z).drop i = c :: r := by
    cases e : (tl z).drop i with
    | nil => have := congrArg List.length e; rw [List.length_drop, lz] at this; simp at this; omega
    | cons c r => exact ⟨c, r, rfl⟩
  obtain ⟨hg, _, hd⟩ := drop_ne hr'
  have app : ∀ (H2 : Hp) (v : V) (k : Tk) (j : Nat) (a b : Option V), Same H1 H2 → TkAt (nw (upd H p (.lst [])) H2) v k → i < j → toks (tl z) = (toks ((tl z).drop j)).map (acc ++ [k] ++ ·) →
      (∃ m', m' < z.length - i ∧ ∃ (i : Nat) (acc : List Tk) (xs' : List V) (a' b' : Option V), m' = z.length - i ∧ xs'.length ≤ i ∧ Same H (upd H2 p (.lst (xs ++ [v]))) ∧ upd H2 p (.lst (xs ++ [v])) p = some (.lst xs') ∧ Paired (TkAt (nw (upd H p (.lst [])) (upd H2 p (.lst (xs ++ [v]))))) xs' acc ∧ toks (tl z) = (toks ((tl z).drop i)).map (acc ++ ·) ∧ [some (.str z), some (.ref p), some (.int (j : Int)), a, b] = [some (.str z), some (.ref p), some (.int (i : Int)), a', b']) := by
    intro H2 v k j a b k2 tk hj e
    refine ⟨_, by omega, j, acc ++ [k], xs ++ [v], a, b, rfl, by rw [List.length_append]; simp; omega, (k1.trans k2).put hp, upd_same, ?_, e, rfl⟩
    exact PySem.Paired.snoc (tks_mono ((nw_mono k2).trans (nw_put upd_same)) pr) (tk.mono (nw_put upd_same))
  have tn : ∀ t, H1 t = none → upd H p (.lst []) t = none := by
    intro a ha
    by_cases e : a = p
    · rw [e, h1] at ha; cases ha
    · rw [upd_ne e]; exact Sub.of k1 _ ha
  have stp (k : Tk) (t : List Nat) (j : Nat) (e : tokStep c r = some (k, t)) (hj : (tl z).drop j = t) : toks (tl z) = (toks ((tl z).drop j)).map (acc ++ [k] ++ ·) := by
    rw [eq, hr', toks_step e, hj]
    cases toks t with
    | none => rfl
    | some l => show some (acc ++ k :: l) = some (acc ++ [k] ++ l); rw [List.append_assoc]; rfl
  walk_at "rd"
  refine rd_ixS (c := c) (szOk (by omega)) (atI_nat hg) ?_
  walk_at "rd"
  rw [dec_tl, tl_sg, show tl ("[" : Str) = [91] by decide +kernel]
  refine rd_ite (fun h2 => ?_) (fun h2 => ?_)
  · have hc : c = 91 := by have := of_decide_eq_true h2; exact (List.cons.inj this).1
    subst hc
    walk_at "rd"
    refine ⟨z, i, r, rfl, rfl, hz, hr', ?_, ?_⟩
    · intro e H2 k2
      walk_at "rd"
      rw [decide_eq_true rfl]
      walk_at "rd"
      refine q0 ?_ H2 (k1.trans k2)
      rw [eq, hr', toks_stop (show tokStep 91 r = none by unfold tokStep; rw [if_pos rfl]; exact e)]
      rfl
    · intro tk t e H2 l v j k2 h2 hv hj1 hj2 hj3
      walk_at "rd"
      rw [decide_eq_false (fun e => nomatch e)]
      walk_at "rd"
      refine rd_tyL (SqL.of (k2 _ _ h1)) ?_
      walk_at "rd"
      refine rd_app (k2 _ _ h1) (szLt (by omega)) ?_
      have lp : l ≠ p := fun e => by rw [e, k2 _ _ h1] at h2; cases h2
      walk_at "rd"
      refine rd_ixT (SqT.of (by rw [upd_ne lp]; exact h2)) rfl ?_
      walk_at "rd"
      exact app H2 v tk j _ _ k2 (hv.mono (nw_base tn)) hj1 (stp _ _ _ (by unfold tokStep; rw [if_pos rfl]; exact e) hj3)
  · have hc : c ≠ 91 := fun e => by rw [e] at h2; exact absurd h2 (by decide)
    have ts : tokStep c r = some (tkOf c, r) := by unfold tokStep; rw [if_neg hc]
    walk_at "rd"
    refine rd_tyL (SqL.of h1) ?_
    walk_at "rd"
    rw [dec_tl, tl_sg, show tl ("*" : Str) = [42] by decide +kernel]
    refine rd_ite (fun h3 => ?_) (fun h3 => ?_)
    · have e3 : c = 42 := by have := of_decide_eq_true h3; exact (List.cons.inj this).1
      subst e3
      walk_at "rd"
      intro t ht
      have k2 := (Same.refl H1).new (o := .tup [.str "any"]) ht
      walk_at "rd"
      refine rd_app (k2 _ _ h1) (szLt (by omega)) ?_
      walk_at "rd"
      exact app _ _ .any (i + 1) _ _ k2 ⟨t, rfl, nw_get (tn t ht) upd_same⟩ (by omega) (stp _ _ _ ts hd)
    walk_at "rd"
    rw [dec_tl, tl_sg, show tl ("?" : Str) = [63] by decide +kernel]
    have n3 : c ≠ 42 := fun e => by rw [e] at h3; exact absurd h3 (by decide)
    refine rd_ite (fun h4 => ?_) (fun h4 => ?_)
    · have e3 : c = 63 := by have := of_decide_eq_true h4; exact (List.cons.inj this).1
      subst e3
      walk_at "rd"
      intro t ht
      have k2 := (Same.refl H1).new (o := .tup [.str "one"]) ht
      walk_at "rd"
      refine rd_app (k2 _ _ h1) (szLt (by omega)) ?_
      walk_at "rd"
      exact app _ _ .one (i + 1) _ _ k2 ⟨t, rfl, nw_get (tn t ht) upd_same⟩ (by omega) (stp _ _ _ ts hd)
    · have n4 : c ≠ 63 := fun e => by rw [e] at h4; exact absurd h4 (by decide)
      have et : tkOf c = .sign c := by unfold tkOf; rw [if_neg n3, if_neg n4]
      walk_at "rd"
      intro t ht
      have k2 := (Same.refl H1).new (o := .tup [.str "sign", .str ⟨#[c]⟩]) ht
      walk_at "rd"
      refine rd_app (k2 _ _ h1) (szLt (by omega)) ?_
      walk_at "rd"
      exact app _ _ (.sign c) (i + 1) _ _ k2 ⟨t, rfl, nw_get (tn t ht) upd_same⟩ (by omega) (stp _ _ _ (by rw [ts, et]) hd)
def patB : V → Bool
  | .str z => (decide (1 ≤ z.length) && decide (z.length ≤ 40)) && (!decide (47 ∈ tl z) && (toks (tl z)).isSome)
  | _ => false
theorem patB_str (z : Str) : patB (.str z) = ((decide (1 ≤ z.length) && decide (z.length ≤ 40)) && (!decide (47 ∈ tl z) && (toks (tl z)).isSome)) := rfl
/-- a text, or what is none -/
def NoStr (K : PySem.W.Frag) (H : Hp) (v : V) : Prop := patB v = false ∧ ∃ t, TyX K H v t ∧ PySem.W.kitOne K t (.type "str") = some false
def AnyP (K : PySem.W.Frag) (H : Hp) (v : V) : Prop := (∃ z : Str, v = .str z ∧ z.length ≤ 1000) ∨ NoStr K H v
theorem AnyP.mono {K : PySem.W.Frag} {H H' : Hp} {v : V} (e : Same H H') (h : AnyP K H v) : AnyP K H' v := by
  rcases h with h | ⟨h1, u, h2, h3⟩
  · exact .inl h
  · exact .inr ⟨h1, u, tyx_same e h2, h3⟩
def Φ_is_a_pattern (K : PySem.W.Frag) (v : V) (H : Hp) (Q : VK) : Prop := AnyP K H v ∧ ∀ H', Same H H' → Q (.bl (patB v)) H'
theorem not_le_dec {n m : Nat} (h : (!decide ((n : Int) ≤ m)) = false) : n ≤ m := by
  cases e : decide ((n : Int) ≤ m) with
  | true => have := of_decide_eq_true e; omega
  | false => rw [e] at h; cases h
theorem not_le_dec' {n m : Nat} (h : (!decide ((n : Int) ≤ m)) = true) : ¬ n ≤ m := by
  cases e : decide ((n : Int) ≤ m) with
  | true => rw [e] at h; cases h
  | false => have := of_decide_eq_false e; omega
theorem in_sign (c : Nat) (s z : Str) (h : tl s = [c]) : inS s z = decide (c ∈ tl z) := by
  have : s = ⟨#[c]⟩ := str_ext h
  rw [this, inS_sign]
theorem ok_is_a_pattern (T : Txt P K mg) {f : Addr} {fd : FuncData} (F : Fun K "is_a_pattern" "is_a_pattern" s_is_a_pattern f fd) : Keeps P w K mg base CX0 4 f fd ["value"] (sp1 (Φ_is_a_pattern K)) := by
  have c_tokens_of := cal (P := P) (w := w) (base := base) T.d_tokens_of fun F => ok_tokens_of T F
  refine keeps0_of F sc_is_a_pattern (fun vs H Q E h => ?_) (fun cdv A outer s H vs Q E hr h => ?_)
  · obtain ⟨_, rfl, _⟩ := h
    rfl
  obtain ⟨v_value, rfl, h⟩ := h
  have hu := hr.hu
  refine ⟨_, (pss_cons (ps_if (PW.pt (pw_or (pt_not (pt_val (pe_callB (isiX (K := K)) (by rfl) T.b_isinstance (by decide +kernel) (pa_cons (pv 0) (pa_cons (pe_bltn (v := .ty "str") (by rfl) T.b_str (by decide +kernel) rfl) pa_nil))))) (pw_or (pt_not (pt_chain oLe oLe pe_int (pe_callB (call_lenX (K := K)) (by rfl) T.b_len (by decide +kernel) (pa_cons (pv 0) pa_nil)) (pe_gk (by rfl) T.c_MOST_PATTERN))) (pw_or1 (pt_cmpR (oIn (K := K) hr.u65) pe_str (pv 0) (by rfl)))))) (pss_one (ps_ret pe_bl)) pss_nil)
      (pss_one (ps_ret (pe_cmpR oIsNot (pe_cal c_tokens_of (hr.mono (by decide)) (by rfl) pass0 (pa_cons (pv 0) pa_nil)) pe_non (nomark _))))), ?_⟩
  rw [show start ["value"] [v_value] = [some v_value] from rfl]
  try dsimp only [cxOf, Cx.nox, Cx.wish]
  obtain ⟨⟨z, rfl, hz⟩ | ⟨hn, t, ty, ht⟩, q⟩ := h
  rotate_left
  · walk_at "rd"
    refine rd_isi ty ht ?_
    walk_at "rd"
    exact hn ▸ q H (Same.refl H)
  walk_at "rd"
  refine rd_ite (fun h1 => ?_) (fun h1 => ?_)
  rotate_left
  · walk_at "rd"
    have e : patB (.str z) = false := by
      have : ¬ (1 ≤ z.length) := by have := of_decide_eq_false h1; omega
      simp [patB, this]
    exact e ▸ q H (Same.refl H)
  have g1 : 1 ≤ z.length := by have := of_decide_eq_true h1; omega
  walk_at "rd"
  refine rd_ite (fun h2 => ?_) (fun h2 => ?_)
  · walk_at "rd"
    have e : patB (.str z) = false := by
      have := not_le_dec' (m := 40) h2
      simp [patB, this]
    exact e ▸ q H (Same.refl H)
  have g2 := not_le_dec (m := 40) h2
  walk_at "rd"
  rw [in_sign 47 "/" z (by decide +kernel)]
  refine rd_ite (fun h3 => ?_) (fun h3 => ?_)
  · walk_at "rd"
    have e : patB (.str z) = false := by rw [patB_str, h3, Bool.not_true, Bool.false_and, Bool.and_false]
    exact e ▸ q H (Same.refl H)
  have eb : patB (.str z) = (toks (tl z)).isSome := by rw [patB_str, h3, decide_eq_true g1, decide_eq_true g2]; rfl
  rw [eb] at q
  walk_at "rd"
  refine ⟨z, rfl, hz, ?_, ?_⟩
  · intro e H1 k1
    rw [e] at q
    walk_at "rd"
    exact q H1 k1
  · intro ts e H1 l xs k1 _ _
    rw [e] at q
    walk_at "rd"
    exact q H1 k1

/-! ## Does a name fit a pattern -/
theorem pr_get {α β : Type} {F : α → β → Prop} {x : α} : ∀ {xs : List α} {ys : List β} {i : Nat}, Paired F xs ys → xs[i]? = some x → ∃ y, ys[i]? = some y ∧ F x y
  | _, _, 0, .cons h _, e => by cases e; exact ⟨_, rfl, h⟩
  | _, _, i + 1, .cons _ t, e => pr_get (i := i) t e
def inI (p : Nat × List Nat) (c : Nat) : Bool := (!decide ([c] < [p.1])) && !decide (p.2 < [c])
def fitsT : Tk → Nat → Bool
  | .any, _ => false
  | .one, _ => true
  | .sign d, c => decide (d = c)
  | .set neg its, c => neg != its.any fun p => inI p c
def isAny : Tk → Bool
  | .any => true
  | _ => false
def anyAt (ts : List Tk) (j : Nat) : Bool := match ts[j]? with
  | some k => isAny k
  | none => false
/-- skipping from p comes to x -/
def Reach (ts : List Tk) (p x : Nat) : Prop := p ≤ x ∧ ∀ j, p ≤ j → j < x → anyAt ts j = true
/-- what the first t pieces fit: the first a signs -/
def Row (ts : List Tk) (s : List Nat) : Nat → Nat → Prop
  | 0, a => a = 0
  | t + 1, a => if anyAt ts t = true then ∃ b, b ≤ a ∧ Row ts s t b else ∃ b k c, a = b + 1 ∧ Row ts s t b ∧ ts[t]? = some k ∧ s[b]? = some c ∧ fitsT k c = true
/-- where the walk may stand behind i signs -/
def Std (ts : List Tk) (s : List Nat) (i j : Nat) : Prop := if anyAt ts j = true then ∃ a, a ≤ i ∧ Row ts s j a else Row ts s j i
theorem any_end {ts : List Tk} {j : Nat} (h : ts.length ≤ j) : anyAt ts j = false := by
  unfold anyAt
  rw [List.getElem?_eq_none h]
theorem any_lt {ts : List Tk} {j : Nat} (h : anyAt ts j = true) : j < ts.length := by
  rcases Nat.lt_or_ge j ts.length with c | c
  · exact c
  · rw [any_end c] at h; cases h
theorem reach_step {ts : List Tk} {p x : Nat} : Reach ts p (x + 1) ↔ p = x + 1 ∨ (Reach ts p x ∧ anyAt ts x = true) := by
  constructor
  · rintro ⟨h1, h2⟩
    rcases Nat.lt_or_ge x p with c | c
    · exact .inl (by omega)
    · exact .inr ⟨⟨c, fun j a b => h2 j a (by omega)⟩, h2 x c (by omega)⟩
  · rintro (rfl | ⟨⟨h1, h2⟩, h3⟩)
    · exact ⟨Nat.le_refl _, fun j a b => by omega⟩
    · refine ⟨by omega, fun j a b => ?_⟩
      rcases Nat.lt_or_ge j x with c | c
      · exact h2 j a c
      · rw [show j = x by omega]; exact h3
theorem reach_zero {ts : List Tk} {p : Nat} : Reach ts p 0 ↔ p = 0 := by
  constructor
  · rintro ⟨h, _⟩; omega
  · rintro rfl; exact ⟨Nat.le_refl _, fun j a b => by omega⟩
/-- what follows the signs read so far -/
def Fol (ts : List Tk) (s : List Nat) (i p : Nat) : Prop := (Std ts s i p ∧ anyAt ts p = true) ∨ ∃ q k c, p = q + 1 ∧ Std ts s i q ∧ anyAt ts q = false ∧ ts[q]? = some k ∧ s[i]? = some c ∧ fitsT k c = true
theorem std_zero (ts : List Tk) (s : List Nat) : ∀ x, Std ts s 0 x ↔ Reach ts 0 x
  | 0 => by
    rw [reach_zero]
    refine ⟨fun _ => rfl, fun _ => ?_⟩
    unfold Std
    split
    · exact ⟨0, Nat.le_refl _, rfl⟩
    · exact rfl
  | x + 1 => by
    have ih := std_zero ts s x
    have e : Std ts s 0 (x + 1) ↔ Row ts s (x + 1) 0 := by
      unfold Std
      split
      · constructor
        · rintro ⟨a, ha, h⟩
          rw [show a = 0 by omega] at h
          exact h
        · intro h; exact ⟨0, Nat.le_refl _, h⟩
      · exact Iff.rfl
    rw [e, reach_step, ← ih]
    show (if anyAt ts x = true then ∃ b, b ≤ 0 ∧ Row ts s x b else ∃ b k c, 0 = b + 1 ∧ _) ↔ _
    by_cases h : anyAt ts x = true
    · rw [if_pos h]
      have e2 : Std ts s 0 x ↔ Row ts s x 0 := by
        unfold Std
        rw [if_pos h]
        constructor
        · rintro ⟨a, ha, h⟩
          rw [show a = 0 by omega] at h
          exact h
        · intro h; exact ⟨0, Nat.le_refl _, h⟩
      rw [e2]
      constructor
      · rintro ⟨b, hb, q⟩
        rw [show b = 0 by omega] at q
        exact .inr ⟨q, h⟩
      · rintro (q | ⟨q, _⟩)
        · omega
        · exact ⟨0, Nat.le_refl _, q⟩
    · rw [if_neg h]
      constructor
      · rintro ⟨b, k, c, q, _⟩; omega
      · rintro (q | ⟨_, q⟩)
        · omega
        · exact absurd q h
theorem row_step (ts : List Tk) (s : List Nat) (i x : Nat) : Row ts s (x + 1) (i + 1) ↔ (anyAt ts x = true ∧ Std ts s (i + 1) x) ∨ ∃ k c, Std ts s i x ∧ anyAt ts x = false ∧ ts[x]? = some k ∧ s[i]? = some c ∧ fitsT k c = true := by
  show (if anyAt ts x = true then _ else _) ↔ _
  by_cases h : anyAt ts x = true
  · rw [if_pos h]
    constructor
    · rintro ⟨b, hb, q⟩
      refine .inl ⟨h, ?_⟩
      unfold Std
      rw [if_pos h]
      exact ⟨b, hb, q⟩
    · rintro (⟨_, q⟩ | ⟨k, c, _, q, _⟩)
      · unfold Std at q
        rw [if_pos h] at q
        exact q
      · rw [h] at q; cases q
  · rw [if_neg h]
    have hf : anyAt ts x = false := by cases e : anyAt ts x with | true => exact absurd e h | false => rfl
    have e : Std ts s i x ↔ Row ts s x i := by unfold Std; rw [if_neg h]
    constructor
    · rintro ⟨b, k, c, hb, q, h1, h2, h3⟩
      obtain rfl : i = b := by omega
      exact .inr ⟨k, c, e.mpr q, hf, h1, h2, h3⟩
    · rintro (⟨q, _⟩ | ⟨k, c, q, _, h1, h2, h3⟩)
      · exact absurd q h
      · exact ⟨i, k, c, rfl, e.mp q, h1, h2, h3⟩
theorem std_next (ts : List Tk) (s : List Nat) (i : Nat) : ∀ x, Std ts s (i + 1) x ↔ ∃ p, Fol ts s i p ∧ Reach ts p x := by
  have key : ∀ x, Std ts s (i + 1) x ↔ (Std ts s i x ∧ anyAt ts x = true) ∨ Row ts s x (i + 1) := by
    intro x
    by_cases h : anyAt ts x = true
    · have e : ∀ i, Std ts s i x ↔ ∃ a, a ≤ i ∧ Row ts s x a := fun i => by unfold Std; rw [if_pos h]
      rw [e, e]
      constructor
      · rintro ⟨a, ha, q⟩
        rcases Nat.lt_or_ge i a with c | c
        · obtain rfl : a = i + 1 := by omega
          exact .inr q
        · exact .inl ⟨⟨a, c, q⟩, h⟩
      · rintro (⟨⟨a, ha, q⟩, _⟩ | q)
        · exact ⟨a, by omega, q⟩
        · exact ⟨i + 1, Nat.le_refl _, q⟩
    · have e : Std ts s (i + 1) x ↔ Row ts s x (i + 1) := by unfold Std; rw [if_neg h]
      rw [e]
      constructor
      · exact .inr
      · rintro (⟨_, q⟩ | q)
        · exact absurd q h
        · exact q
  intro x
  induction x with
  | zero =>
    rw [key]
    constructor
    · rintro (q | q)
      · exact ⟨0, .inl q, reach_zero.mpr rfl⟩
      · exact absurd (show i + 1 = 0 from q) (by omega)
    · rintro ⟨p, f, r⟩
      obtain rfl := reach_zero.mp r
      rcases f with q | ⟨q, k, c, e, _⟩
      · exact .inl q
      · omega
  | succ x ih =>
    rw [key, row_step, ih]
    constructor
    · rintro (q | ⟨h, p, f, r⟩ | ⟨k, c, h1, h2, h3, h4, h5⟩)
      · exact ⟨x + 1, .inl q, reach_step.mpr (.inl rfl)⟩
      · exact ⟨p, f, reach_step.mpr (.inr ⟨r, h⟩)⟩
      · exact ⟨x + 1, .inr ⟨x, k, c, rfl, h1, h2, h3, h4, h5⟩, reach_step.mpr (.inl rfl)⟩
    · rintro ⟨p, f, r⟩
      rcases reach_step.mp r with rfl | ⟨r, h⟩
      · rcases f with q | ⟨q, k, c, e, h1, h2, h3, h4, h5⟩
        · exact .inl q
        · obtain rfl : x = q := by omega
          exact .inr (.inr ⟨k, c, h1, h2, h3, h4, h5⟩)
      · exact .inr (.inl ⟨h, p, f, r⟩)
/-- all pieces fit all signs -/
def FitR (ts : List Tk) (s : List Nat) : Prop := Row ts s ts.length s.length
theorem std_end (ts : List Tk) (s : List Nat) : Std ts s s.length ts.length ↔ FitR ts s := by
  unfold Std FitR
  rw [any_end (Nat.le_refl _), if_neg Bool.false_ne_true]
theorem std_le {ts : List Tk} {s : List Nat} : ∀ {j i : Nat}, Row ts s j i → j ≤ ts.length
  | 0, _, _ => Nat.zero_le _
  | j + 1, i, h => by
    by_cases c : anyAt ts j = true
    · exact any_lt c
    · have h' : (if anyAt ts j = true then ∃ b, b ≤ i ∧ Row ts s j b else ∃ b k c, i = b + 1 ∧ Row ts s j b ∧ ts[j]? = some k ∧ s[b]? = some c ∧ fitsT k c = true) := h
      rw [if_neg c] at h'
      obtain ⟨b, k, _, _, _, e, _⟩ := h'
      exact (List.getElem?_eq_some_iff.mp e).1
theorem Std.le {ts : List Tk} {s : List Nat} {i j : Nat} (h : Std ts s i j) : j ≤ ts.length := by
  unfold Std at h
  split at h
  · obtain ⟨a, _, q⟩ := h; exact std_le q
  · exact std_le h
def Φ_token_fits (K : PySem.W.Frag) (vt vs : V) (H : Hp) (Q : VK) : Prop := ∃ (k : Tk) (c : Nat), TkAt H vt k ∧ vs = .str ⟨#[c]⟩ ∧ k ≠ .any ∧ (∀ n is, k = .set n is → is.length ≤ 1000) ∧ ∀ H', Same H H' → Q (.bl (fitsT k c)) H'
theorem ok_token_fits (T : Txt P K mg) {f : Addr} {fd : FuncData} (F : Fun K "token_fits" "token_fits" s_token_fits f fd) : Keeps P w K mg base CX0 1 f fd ["token", "sign"] (sp2 (Φ_token_fits K)) := by
  refine keeps0_of F sc_token_fits (fun vs H Q E h => ?_) (fun cdv A outer s H vs Q E hr h => ?_)
  · obtain ⟨_, _, rfl, _⟩ := h
    rfl
  obtain ⟨v_token, v_sign, rfl, h⟩ := h
  have hu := hr.hu
  refine ⟨_, (pss_cons (ps_if (pt_cmpR (oEq (K := K) hr.u65) (pe_ix (ixX (K := K)) (pv 0) pe_int (fun _ _ => rfl)) (pe_gk (by rfl) T.c_SET) (nomark _)) (pss_one (ps_ret (pe_cmpR (oNe (K := K) hr.u65) (pe_ix (ixX (K := K)) (pv 0) pe_int (fun _ _ => rfl)) (pe_callB (anyX (K := K) rfl) (by rfl) T.b_any (by decide +kernel) (pa_cons (pe_lc (own := [("low", 2), ("high", 3)]) rfl sc_token_fits.nd (pi_any (K := K) (pe_ix (ixX (K := K)) (pv 0) pe_int (fun _ _ => rfl))) (blkOk_by (own := [("low", 2), ("high", 3)]) (N := ["token", "sign", "low", "high"]) (sc := defScope s_token_fits) (by decide +kernel)) (fun _ _ _ _ _ => pg_seqX (K := K) (n := 2) rfl (pgs_cons (pg_name (i := 2) sc_token_fits.nd rfl (by first | exact Or.inl rfl | exact Or.inr rfl)) (pgs_cons (pg_name (i := 3) sc_token_fits.nd rfl (by first | exact Or.inl rfl | exact Or.inr rfl)) pgs_nil))) (fun _ _ _ _ _ => pts_nil) (fun _ _ _ _ _ => (pe_chain oLe oLe (pv 2) (pv 1) (pv 3)))) pa_nil)) (nomark _)))) pss_nil)
      (pss_one (ps_ret (pe_or (pe_cmpR (oEq (K := K) hr.u65) (pe_ix (ixX (K := K)) (pv 0) pe_int (fun _ _ => rfl)) (pe_gk (by rfl) T.c_ONE) (nomark _)) (pe_one (pe_cmpR (oEq (K := K) hr.u65) (pe_ix (ixX (K := K)) (pv 0) pe_int (fun _ _ => rfl)) (pv 1) (nomark _))))))), ?_⟩
  rw [show start ["token", "sign", "low", "high"] [v_token, v_sign] = [some v_token, some v_sign, none, none] from rfl]
  try dsimp only [cxOf, Cx.nox, Cx.wish]
  obtain ⟨k, c, hk, rfl, hne, hl, q⟩ := h
  cases k with
  | any => exact absurd rfl hne
  | one =>
    obtain ⟨t, rfl, ht⟩ := hk
    walk_at "rd"
    refine rd_noI (by decide +kernel) ?_
    walk_at "rd"
    refine rd_yesI (decide_eq_true rfl) ?_
    walk_at "rd"
    exact q H (Same.refl H)
  | sign d =>
    obtain ⟨t, rfl, ht⟩ := hk
    walk_at "rd"
    refine rd_noI (by decide +kernel) ?_
    walk_at "rd"
    refine rd_noI (by decide +kernel) ?_
    walk_at "rd"
    have e : decide ((⟨#[d]⟩ : Str) = ⟨#[c]⟩) = decide (d = c) := decide_eq_decide.mpr ⟨fun h => by have := congrArg tl h; exact (List.cons.inj this).1, fun h => by rw [h]⟩
    rw [e]
    exact q H (Same.refl H)
  | set neg its =>
    obtain ⟨t, l, xs, rfl, ht, hl1, hp⟩ := hk
    have lx : xs.length = its.length := Paired.length hp
    have := hl neg its rfl
    walk_at "rd"
    refine rd_yesI (decide_eq_true rfl) ?_
    walk_at "rd"
    refine rd_lcL ?_
    walk_at "rd"
    refine rd_clL (xs := xs) (SqL.of hl1) (fun D i H' => Same H H' ∧ H' D = some (.lst (((its.take i).map fun p => inI p c).map V.bl))) (fun D hD => ⟨(Same.refl H).new (o := .lst []) hD, upd_same⟩) (fun D i H' hD _ h => SqL.of (h.1 _ _ hl1)) ?_ ?_
    · rintro D i x H' hD hx ⟨k1, hD1⟩
      obtain ⟨p, hp1, t2, h2, rfl, e2, ht2⟩ := pr_get hp hx
      refine rd_gtup (SqT.of (k1 _ _ ht2)) rfl ?_
      have grow : its.take (i + 1) = its.take i ++ [p] := by rw [List.take_add_one, hp1]; rfl
      have ib : i < its.length := (List.getElem?_eq_some_iff.mp hp1).1
      have fin : ∀ b, b = inI p c → ∃ acc, H' D = some (.lst acc) ∧ acc.length < sizeLine ∧ Same H (upd H' D (.lst (acc ++ [.bl b]))) ∧ upd H' D (.lst (acc ++ [.bl b])) D = some (.lst (((its.take (i + 1)).map fun p => inI p c).map V.bl)) := by
        intro b hb
        refine ⟨_, hD1, szLt (by rw [List.length_map, List.length_map, List.length_take]; omega), k1.put hD, ?_⟩
        rw [upd_same, grow, hb, List.map_append, List.map_append]
        rfl
      walk_at "rd"
      refine rd_ite (fun h1 => ?_) (fun h1 => ?_)
      · walk_at "rd"
        refine fin _ ?_
        unfold inI
        have e1 : (!decide (([c] : List Nat) < [p.1])) = true := h1
        rw [e1, Bool.true_and, ← e2] <;> rfl
      · refine fin _ ?_
        unfold inI
        have e1 : (!decide (([c] : List Nat) < [p.1])) = false := h1
        rw [e1, Bool.false_and]
    · rintro D H' hD ⟨k1, hD1⟩
      rw [lx, List.take_length] at hD1
      walk_at "rd"
      refine rd_any (SqL.of hD1) ?_
      walk_at "rd"
      have e : (its.map fun p => inI p c).any _root_.id = its.any fun p => inI p c := List.any_map
      rw [e]
      exact q H' k1
/-- pieces, as a list holds them -/
def Toks (H : Hp) (l : Addr) (ts : List Tk) : Prop := ∃ xs, H l = some (.lst xs) ∧ Paired (TkAt H) xs ts
theorem Toks.same {H H' : Hp} {l : Addr} {ts : List Tk} (h : Toks H l ts) (e : Same H H') : Toks H' l ts := by
  obtain ⟨xs, h1, h2⟩ := h
  exact ⟨xs, e _ _ h1, tks_mono e h2⟩
/-- tokens[at][0] == ANY -/
theorem TkAt.head {K : PySem.W.Frag} {H : Hp} {v : V} {k : Tk} (h : TkAt H v k) : ∃ (t : Addr) (xs : List V) (z : Str), v = .ref t ∧ H t = some (.tup (.str z :: xs)) ∧ decide (z = "any") = isAny k := by
  cases k with
  | any => obtain ⟨t, h1, h2⟩ := h; exact ⟨t, _, _, h1, h2, decide_eq_true rfl⟩
  | one => obtain ⟨t, h1, h2⟩ := h; exact ⟨t, _, _, h1, h2, show _ = false by decide +kernel⟩
  | sign c => obtain ⟨t, h1, h2⟩ := h; exact ⟨t, _, _, h1, h2, show _ = false by decide +kernel⟩
  | set n i => obtain ⟨t, l, xs, h1, h2, _⟩ := h; exact ⟨t, _, _, h1, h2, show _ = false by decide +kernel⟩
theorem any_at {ts : List Tk} {j : Nat} {k : Tk} (h : ts[j]? = some k) : anyAt ts j = isAny k := by
  unfold anyAt
  rw [h]
def Φ_with_skips (K : PySem.W.Frag) (vt vp : V) (H : Hp) (Q : VK) : Prop := ∃ (l p : Addr) (ts : List Tk) (ps : List Nat), vt = .ref l ∧ vp = .ref p ∧ Toks H l ts ∧ ts.length ≤ 900 ∧ H p = some (.lst (ps.map fun n : Nat => V.int (n : Int))) ∧ (∀ x ∈ ps, x ≤ ts.length) ∧
  ∀ (D : Addr) (H' : Hp), H D = none → Same H H' → KeysAre H' D (fun x => ∃ q ∈ ps, Reach ts q x) → Q (.ref D) H'
theorem Reach.le {ts : List Tk} {p x : Nat} (h : Reach ts p x) (hp : p ≤ ts.length) : x ≤ ts.length := by
  obtain ⟨h1, h2⟩ := h
  rcases Nat.lt_or_ge ts.length x with c | c
  · have := h2 (x - 1) (by omega) (by omega)
    have := any_lt this
    omega
  · exact c
theorem ok_with_skips (T : Txt P K mg) {f : Addr} {fd : FuncData} (F : Fun K "with_skips" "with_skips" s_with_skips f fd) : Keeps P w K mg base CX0 1 f fd ["tokens", "places"] (sp2 (Φ_with_skips K)) := by
  refine keeps0_of F sc_with_skips (fun vs H Q E h => ?_) (fun cdv A outer s H vs Q E hr h => ?_)
  · obtain ⟨_, _, rfl, _⟩ := h
    rfl
  obtain ⟨v_tokens, v_places, rfl, h⟩ := h
  have hu := hr.hu
  refine ⟨_, (pss_cons (ps_set (i := 2) sc_with_skips.nd rfl (by first | exact Or.inl rfl | exact Or.inr rfl) pe_dnewK)
      (pss_cons (ps_for PassesOwn.never rfl (pi_any (K := K) (pv 1)) (pg_name (i := 3) sc_with_skips.nd rfl (by first | exact Or.inl rfl | exact Or.inr rfl)) (pss_cons (ps_set (i := 4) sc_with_skips.nd rfl (by first | exact Or.inl rfl | exact Or.inr rfl) (pv 3))
      (pss_cons (ps_dput hu (pv 2) (pv 4) pe_bl rfl)
      (pss_one (ps_while PassesOwn.never (PW.pt (pw_and (pt_cmpR oLt (pv 4) (pe_callB (call_lenX (K := K)) (by rfl) T.b_len (by decide +kernel) (pa_cons (pv 0) pa_nil)) (nomark _)) (pw_and1 (pt_cmpR (oEq (K := K) hr.u65) (pe_ix (ixX (K := K)) (pe_ix (ixX (K := K)) (pv 0) (pv 4) (fun _ _ => rfl)) pe_int (fun _ _ => rfl)) (pe_gk (by rfl) T.c_ANY) (nomark _))))) (pss_cons (ps_aug (i := 4) sc_with_skips.nd rfl (by first | exact Or.inl rfl | exact Or.inr rfl) pe_int ip_add)
      (pss_one (ps_dput hu (pv 2) (pv 4) pe_bl rfl))))))))
      (pss_one (ps_ret (pv 2))))), ?_⟩
  rw [show start ["tokens", "places", "found", "place", "at"] [v_tokens, v_places] = [some v_tokens, some v_places, none, none, none] from rfl]
  try dsimp only [cxOf, Cx.nox, Cx.wish]
  obtain ⟨l, p, ts, ps, rfl, rfl, hT, hl, hp, hps, q⟩ := h
  walk_at "rd"
  intro D hD
  walk_at "rd"
  refine rd_forL ?_
  walk_at "rd"
  have k1 := (Same.refl H).new (o := .dK []) hD
  refine rd_itL (xs := ps.map fun n : Nat => V.int (n : Int)) (SqL.of (k1 _ _ hp)) (fun i σ H' => Same H H' ∧ KeysAre H' D (fun x => ∃ q ∈ ps.take i, Reach ts q x) ∧ ∃ x y, σ = [some (.ref l), some (.ref p), some (.ref D), x, y]) ⟨k1, KeysAre.zero.congr fun k => ⟨False.elim, fun ⟨_, h, _⟩ => nomatch h⟩, _, _, rfl⟩ ?_ ?_ ?_
  · rintro i σ H' _ ⟨k, _⟩
    exact SqL.of (k _ _ hp)
  · rintro i x σ H1 hx ⟨k, hK, x1, x2, rfl⟩
    rw [List.getElem?_map] at hx
    obtain ⟨a, ha, rfl⟩ := Option.map_eq_some_iff.mp hx
    have han := hps a (List.mem_of_getElem? ha)
    have hb : ∀ k, (∃ q ∈ ps.take i, Reach ts q k) → k < ts.length + 1 := fun k ⟨q, hq, r⟩ => by
      have := r.le (hps q (List.mem_of_mem_take hq))
      omega
    have grow : ps.take (i + 1) = ps.take i ++ [a] := by rw [List.take_add_one, ha]; rfl
    walk_at "rd"
    refine hK.put hb (by omega) fun o hK2 => ?_
    refine rd_while (fun m σ H' => ∃ b : Nat, m = ts.length - b ∧ a ≤ b ∧ b ≤ ts.length ∧ Same H H' ∧ KeysAre H' D (fun k => (∃ q ∈ ps.take i, Reach ts q k) ∨ (a ≤ k ∧ k ≤ b)) ∧ (∀ j, a ≤ j → j < b → anyAt ts j = true) ∧ σ = [some (.ref l), some (.ref p), some (.ref D), some (.int a), some (.int b)])
      (ts.length - a) ⟨a, rfl, Nat.le_refl _, han, k.put hD, hK2.congr fun k => ⟨fun h => h.imp (fun h => h) fun h => by omega, fun h => h.imp (fun h => h) fun h => by omega⟩, fun j _ _ => by omega, rfl⟩ ?_
    rintro m σ H3 ⟨b, rfl, ab, bn, k3, hK3, hr, rfl⟩
    obtain ⟨xs, hxs, hpr⟩ := hT.same k3
    have lx : xs.length = ts.length := Paired.length hpr
    have stop : anyAt ts b = false → Same H H3 ∧ KeysAre H3 D (fun x => ∃ q ∈ ps.take (i + 1), Reach ts q x) ∧ ∃ x y, [some (V.ref l), some (.ref p), some (.ref D), some (.int a), some (.int b)] = [some (.ref l), some (.ref p), some (.ref D), x, y] := by
      intro hs
      refine ⟨k3, hK3.congr fun x => ?_, _, _, rfl⟩
      rw [grow]
      constructor
      · rintro (⟨q, hq, r⟩ | ⟨h1, h2⟩)
        · exact ⟨q, List.mem_append_left _ hq, r⟩
        · exact ⟨a, List.mem_append_right _ (List.mem_singleton.mpr rfl), h1, fun j c d => hr j c (by omega)⟩
      · rintro ⟨q, hq, r⟩
        rcases List.mem_append.mp hq with h | h
        · exact .inl ⟨q, h, r⟩
        · rw [List.mem_singleton.mp h] at r
          refine .inr ⟨r.1, ?_⟩
          rcases Nat.lt_or_ge b x with c | c
          · have := r.2 b ab c
            rw [hs] at this
            cases this
          · exact c
    walk_at "rd"
    refine rd_lenL (SqL.of hxs) ?_
    walk_at "rd"
    refine rd_ite (fun hc => ?_) (fun hc => ?_)
    · have hbl : b < xs.length := by have := of_decide_eq_true hc; omega
      have hx : xs[b]? = some xs[b] := List.getElem?_eq_getElem hbl
      obtain ⟨kk, hkk, at1⟩ := pr_get hpr hx
      obtain ⟨t, us, z, et, ht, ez⟩ := at1.head (K := K)
      walk_at "rd"
      refine rd_ixL (SqL.of hxs) (atI_nat (hx.trans (congrArg some et))) ?_
      walk_at "rd"
      refine rd_ixT (SqT.of ht) (atI_nat (j := 0) rfl) ?_
      walk_at "rd"
      rw [ez, ← any_at hkk]
      cases hs : anyAt ts b with
      | false =>
        walk_at "rd"
        exact stop hs
      | true =>
        refine rd_yT ?_
        refine rd_turn ?_
        walk_at "rd"
        have hb3 : ∀ k, (∃ q ∈ ps.take i, Reach ts q k) ∨ (a ≤ k ∧ k ≤ b) → k < ts.length + 1 := fun k h => h.elim (hb k) fun h => by omega
        have e1 : (b : Int) + 1 = ((b + 1 : Nat) : Int) := by omega
        rw [e1]
        walk_at "rd"
        refine hK3.put hb3 (by omega) fun o hK4 => ?_
        refine ⟨_, (by have := any_lt hs; omega : ts.length - (b + 1) < ts.length - b), b + 1, rfl, by omega, any_lt hs, k3.put hD, hK4.congr fun k => ?_, fun j c d => ?_, rfl⟩
        · constructor
          · rintro ((h | h) | h)
            · exact .inl h
            · exact .inr (by omega)
            · exact .inr (by omega)
          · rintro (h | h)
            · exact .inl (.inl h)
            · rcases Nat.lt_or_ge b k with c | c
              · exact .inr (by omega)
              · exact .inl (.inr (by omega))
        · rcases Nat.lt_or_ge j b with e | e
          · exact hr j c e
          · rw [show j = b by omega]; exact hs
    · walk_at "rd"
      exact stop (any_end (by have := of_decide_eq_false hc; omega))
  · rintro σ H1 ⟨k, hK, x1, x2, rfl⟩
    rw [List.length_map, List.take_length] at hK
    walk_at "rd"
    exact q D H1 hD k hK
/-- what a place gives to those that follow -/
def Con (ts : List Tk) (s : List Nat) (i m p : Nat) : Prop := (anyAt ts m = true ∧ p = m) ∨ (anyAt ts m = false ∧ p = m + 1 ∧ ∃ k c, ts[m]? = some k ∧ s[i]? = some c ∧ fitsT k c = true)
def Φ_is_fitting (K : PySem.W.Frag) (vp vn : V) (H : Hp) (Q : VK) : Prop := ∃ (z y : Str) (ts : List Tk), vp = .str z ∧ vn = .str y ∧ z.length ≤ 900 ∧ 1 ≤ z.length ∧ y.length ≤ 1000 ∧ toks (tl z) = some ts ∧ ts.length ≤ 900 ∧ (∀ k ∈ ts, ∀ n is, k = .set n is → is.length ≤ 1000) ∧
  ∀ (b : Bool) (H' : Hp), (b = true ↔ ((tl y).take 1 = [46] → (tl z).take 1 = [46]) ∧ FitR ts (tl y)) → Same H H' → Q (.bl b) H'
theorem ok_is_fitting (T : Txt P K mg) {f : Addr} {fd : FuncData} (F : Fun K "is_fitting" "is_fitting" s_is_fitting f fd) : Keeps P w K mg base CX0 4 f fd ["pattern", "name"] (sp2 (Φ_is_fitting K)) := by
  have c_tokens_of := cal (P := P) (w := w) (base := base) T.d_tokens_of fun F => ok_tokens_of T F
  have c_with_skips := cal (P := P) (w := w) (base := base) T.d_with_skips fun F => ok_with_skips T F
  have c_token_fits := cal (P := P) (w := w) (base := base) T.d_token_fits fun F => ok_token_fits T F
  refine keeps0_of F sc_is_fitting (fun vs H Q E h => ?_) (fun cdv A outer s H vs Q E hr h => ?_)
  · obtain ⟨_, _, rfl, _⟩ := h
    rfl
  obtain ⟨v_pattern, v_name, rfl, h⟩ := h
  have hu := hr.hu
  refine ⟨_, (pss_meet (ps_if (PW.pt (pw_and (pt_cmpR (oEq (K := K) hr.u65) (pe_slice (sX (K := K)) (pv 1) po_none (po_some pe_int)) pe_str (nomark _)) (pw_and1 (pt_cmpR (oNe (K := K) hr.u65) (pe_ix (ixX (K := K)) (pv 0) pe_int (fun _ _ => rfl)) pe_str (nomark _))))) (pss_one (ps_ret pe_bl)) pss_nil)
      (pss_cons (ps_set (i := 2) sc_is_fitting.nd rfl (by first | exact Or.inl rfl | exact Or.inr rfl) (pe_cal c_tokens_of (hr.mono (by decide)) (by rfl) pass0 (pa_cons (pv 0) pa_nil)))
      (pss_cons (ps_set (i := 3) sc_is_fitting.nd rfl (by first | exact Or.inl rfl | exact Or.inr rfl) (pe_cal c_with_skips (hr.mono (by decide)) (by rfl) pass0 (pa_cons (pv 2) (pa_cons (pe_lst (pa_cons pe_int pa_nil)) pa_nil))))
      (pss_cons (ps_for PassesOwn.never rfl (pi_any (K := K) (pv 1)) (pg_name (i := 4) sc_is_fitting.nd rfl (by first | exact Or.inl rfl | exact Or.inr rfl)) (pss_cons (ps_set (i := 5) sc_is_fitting.nd rfl (by first | exact Or.inl rfl | exact Or.inr rfl) (pe_lst pa_nil))
      (pss_cons (ps_lock (ps_for PassesOwn.never rfl (pi_keys (pv 3)) (pg_name (i := 6) sc_is_fitting.nd rfl (by first | exact Or.inl rfl | exact Or.inr rfl)) (pss_one (ps_if (PW.pt (pw_and (pt_cmpR oLt (pv 6) (pe_callB (call_lenX (K := K)) (by rfl) T.b_len (by decide +kernel) (pa_cons (pv 2) pa_nil)) (nomark _)) (pw_and1 (pt_cmpR (oEq (K := K) hr.u65) (pe_ix (ixX (K := K)) (pe_ix (ixX (K := K)) (pv 2) (pv 6) (fun _ _ => rfl)) pe_int (fun _ _ => rfl)) (pe_gk (by rfl) T.c_ANY) (nomark _))))) (pss_one (ps_expr (pe_bmX (K := K) PySem.F.plainAttrs_list PySem.F.slot_list_append PySem.F.type_list_append mt_append (pv 5) (pa_cons (pv 6) pa_nil)))) (pss_one (ps_if (PW.pt (pw_and (pt_cmpR oLt (pv 6) (pe_callB (call_lenX (K := K)) (by rfl) T.b_len (by decide +kernel) (pa_cons (pv 2) pa_nil)) (nomark _)) (pw_and1 (pt_val (pe_cal c_token_fits (hr.mono (by decide)) (by rfl) pass0 (pa_cons (pe_ix (ixX (K := K)) (pv 2) (pv 6) (fun _ _ => rfl)) (pa_cons (pv 4) pa_nil))))))) (pss_one (ps_expr (pe_bmX (K := K) PySem.F.plainAttrs_list PySem.F.slot_list_append PySem.F.type_list_append mt_append (pv 5) (pa_cons (pe_op (oAdd (K := K)) (pv 6) pe_int) pa_nil)))) pss_nil))))))
      (pss_one (ps_set (i := 3) sc_is_fitting.nd rfl (by first | exact Or.inl rfl | exact Or.inr rfl) (pe_cal c_with_skips (hr.mono (by decide)) (by rfl) pass0 (pa_cons (pv 2) (pa_cons (pv 5) pa_nil))))))))
      (pss_one (ps_ret (pe_cmp (pc_din hu (pe_callB (call_lenX (K := K)) (by rfl) T.b_len (by decide +kernel) (pa_cons (pv 2) pa_nil)) (pv 3))))))))), ?_⟩
  rw [show start ["pattern", "name", "tokens", "places", "sign", "following", "place"] [v_pattern, v_name] = [some v_pattern, some v_name, none, none, none, none, none] from rfl]
  try dsimp only [cxOf, Cx.nox, Cx.wish]
  obtain ⟨z, y, ts, rfl, rfl, hz, hz1, hy, ht, hl, hset, q⟩ := h
  have lz := len_tl z
  have ly := len_tl y
  have take1 : ∀ (a : Str), decide (cutS a none (some 1) = ".") = decide ((tl a).take 1 = [46]) := fun a => by
    rw [dec_tl, show (some (1 : Int)) = some ((1 : Nat) : Int) from rfl, tl_take, show tl ("." : Str) = [46] by decide +kernel]
  have hz0 : ∃ c r, tl z = c :: r := by
    rcases tl_cases z with e | h
    · rw [e] at lz; exact absurd lz (by rw [List.length_nil]; omega)
    · exact h
  obtain ⟨c, r, ez⟩ := hz0
  refine rd_meet (fun σ' H' => H' = H ∧ σ' = [some (.str z), some (.str y), none, none, none, none, none] ∧ ((tl y).take 1 = [46] → (tl z).take 1 = [46])) ?_ ?_
  · walk_at "rd"
    rw [take1]
    refine rd_ite (fun h1 => ?_) (fun h1 => ?_)
    · have h1 := of_decide_eq_true h1
      walk_at "rd"
      refine rd_ixS (c := c) (szOk (by omega)) (atI_nat (j := 0) (by show (tl z)[0]? = _; rw [ez]; rfl)) ?_
      walk_at "rd"
      have e2 : decide ((⟨#[c]⟩ : Str) = ".") = decide ((tl z).take 1 = [46]) := by
        rw [dec_tl, show tl ("." : Str) = [46] by decide +kernel, ez] <;> rfl
      rw [e2]
      refine rd_ite (fun h2 => ?_) (fun h2 => ?_)
      · walk_at "rd"
        refine q false H ⟨(fun h => nomatch h), fun h => ?_⟩ (Same.refl H)
        have := h.1 h1
        rw [decide_eq_true this] at h2
        cases h2
      · walk_at "rd"
        refine ⟨rfl, rfl, fun _ => ?_⟩
        cases e : decide ((tl z).take 1 = [46]) with
        | true => exact of_decide_eq_true e
        | false => rw [e] at h2; cases h2
    · walk_at "rd"
      exact ⟨rfl, rfl, fun h => absurd h (of_decide_eq_false h1)⟩
  rintro _ _ ⟨rfl, rfl, hdot⟩
  walk_at "rd"
  refine ⟨z, rfl, by omega, ?_, ?_⟩
  · intro e; rw [ht] at e; cases e
  intro ts' e' H1 l xs k1 hxs0 hpr0
  rw [ht] at e'
  cases e'
  have hT : Toks H1 l ts := ⟨xs, nw_same _ _ hxs0, tks_mono nw_same hpr0⟩
  walk_at "rd"
  intro p hp
  have k2 := (Same.refl H1).new (o := .lst [.int 0]) hp
  walk_at "rd"
  refine ⟨l, p, ts, [0], rfl, rfl, hT.same k2, hl, upd_same, (fun x hx => by rw [List.mem_singleton.mp hx]; exact Nat.zero_le _), fun D H2 hD k3 hK => ?_⟩
  have hK := hK.congr fun x => (show (∃ q ∈ [0], Reach ts q x) ↔ Std ts (tl y) 0 x from by
    rw [std_zero]
    exact ⟨fun ⟨q, h, r⟩ => by rwa [List.mem_singleton.mp h] at r, fun r => ⟨0, List.mem_singleton.mpr rfl, r⟩⟩)
  have k12 : Same H1 H2 := k2.trans k3
  have hD1 : H1 D = none := by
    cases e : H1 D with
    | none => rfl
    | some o => rw [k2 _ _ e] at hD; cases hD
  walk_at "rd"
  refine rd_forS ?_
  walk_at "rd"
  refine rd_itS (fun i σ H' => Same H1 H' ∧ ∃ D a b c, KeysAre H' D (Std ts (tl y) i) ∧ H1 D = none ∧ σ = [some (.str z), some (.str y), some (.ref l), some (.ref D), a, b, c])
    ⟨k12, D, _, _, _, hK, hD1, rfl⟩ ?_ ?_
  · rintro i sg σ H3 hi ⟨k3, D, a, b, c, hK, hD0, rfl⟩
    have hsg : (tl y)[i]? = some sg := by rw [← hi]; exact (Array.getElem?_toList ..).symm ▸ rfl
    walk_at "rd"
    intro f hf
    walk_at "rd"
    obtain ⟨kvs, ks, hD, ek, nd, mem⟩ := hK
    have fD : f ≠ D := fun e => by rw [e, hD] at hf; cases hf
    have k4 := k3.new (o := .lst []) hf
    have f0 : H1 f = none := by
      cases e : H1 f with
      | none => rfl
      | some o => rw [k3 _ _ e] at hf; cases hf
    have lk : kvs.length = ks.length := keys_len ek
    have lks : ks.length ≤ ts.length + 1 := few_ints _ nd fun x hx => by
      obtain ⟨m, rfl, hm⟩ := (mem x).mp hx
      have := hm.le
      omega
    refine rd_lock (d := D) (u := .dK kvs) (by rw [upd_ne fD.symm]; exact hD) trivial fun od => ?_
    refine rd_forK ?_
    walk_at "rd"
    have k5 : Same H1 (upd (upd H3 f (.lst [])) D (.frz od (.dK kvs))) := k4.put hD0
    refine rd_itK upd_same (fun i2 σ H' => Same H1 H' ∧ H' D = some (.frz od (.dK kvs)) ∧ (∃ ns : List Nat, H' f = some (.lst (ns.map fun n : Nat => V.int (n : Int))) ∧ ns.length ≤ i2 ∧ ∀ p, p ∈ ns ↔ ∃ m : Nat, (m : Int) ∈ ks.take i2 ∧ Con ts (tl y) i m p) ∧ ∃ c, σ = [some (.str z), some (.str y), some (.ref l), some (.ref D), some (.str ⟨#[sg]⟩), some (.ref f), c])
      ⟨k5, upd_same, ⟨[], by rw [upd_ne fD]; exact upd_same, Nat.le_refl _, fun p => ⟨(fun h => nomatch h), fun ⟨_, h, _⟩ => nomatch h⟩⟩, _, rfl⟩ (fun _ _ _ _ h => h.2.1) ?_ ?_
    · rintro i2 kk v σ H6 hkv ⟨k6, hD6, ⟨ns, hf6, lns, hns⟩, c2, rfl⟩
      have hk2 : ks[i2]?.map Sum.inl = some kk := by
        rw [← List.getElem?_map, ← ek, List.getElem?_map, hkv]
        rfl
      obtain ⟨x, hx, rfl⟩ := Option.map_eq_some_iff.mp hk2
      obtain ⟨m, rfl, hm⟩ := (mem x).mp (List.mem_of_getElem? hx)
      have grow : ks.take (i2 + 1) = ks.take i2 ++ [(m : Int)] := by rw [List.take_add_one, hx]; rfl
      have ib : i2 < ks.length := (List.getElem?_eq_some_iff.mp hx).1
      obtain ⟨xs, hxs, hpr⟩ := hT.same k6
      have lx : xs.length = ts.length := Paired.length hpr
      have skip : (∀ p, ¬ Con ts (tl y) i m p) → ∀ H7, Same H6 H7 → Same H1 H7 ∧ H7 D = some (.frz od (.dK kvs)) ∧ (∃ ns : List Nat, H7 f = some (.lst (ns.map fun n : Nat => V.int (n : Int))) ∧ ns.length ≤ i2 + 1 ∧ ∀ p, p ∈ ns ↔ ∃ m : Nat, (m : Int) ∈ ks.take (i2 + 1) ∧ Con ts (tl y) i m p) ∧ ∃ c, [some (V.str z), some (.str y), some (.ref l), some (.ref D), some (.str ⟨#[sg]⟩), some (.ref f), some (.int (m : Int))] = [some (.str z), some (.str y), some (.ref l), some (.ref D), some (.str ⟨#[sg]⟩), some (.ref f), c] := by
        intro no H7 k7
        refine ⟨k6.trans k7, k7 _ _ hD6, ⟨ns, k7 _ _ hf6, by omega, fun p => (hns p).trans ?_⟩, _, rfl⟩
        rw [grow]
        constructor
        · rintro ⟨m', h1, h2⟩
          exact ⟨m', List.mem_append_left _ h1, h2⟩
        · rintro ⟨m', h1, h2⟩
          rcases List.mem_append.mp h1 with h | h
          · exact ⟨m', h, h2⟩
          · rw [show m' = m by have := List.mem_singleton.mp h; omega] at h2
            exact absurd h2 (no p)
      have take : ∀ (p0 : Nat) (H7 : Hp), (∀ p, Con ts (tl y) i m p ↔ p = p0) → Same H6 H7 → Same H1 (upd H7 f (.lst (ns.map (fun n : Nat => V.int (n : Int)) ++ [.int (p0 : Int)]))) ∧ upd H7 f (.lst (ns.map (fun n : Nat => V.int (n : Int)) ++ [.int (p0 : Int)])) D = some (.frz od (.dK kvs)) ∧ (∃ ns' : List Nat, upd H7 f (.lst (ns.map (fun n : Nat => V.int (n : Int)) ++ [.int (p0 : Int)])) f = some (.lst (ns'.map fun n : Nat => V.int (n : Int))) ∧ ns'.length ≤ i2 + 1 ∧ ∀ p, p ∈ ns' ↔ ∃ m : Nat, (m : Int) ∈ ks.take (i2 + 1) ∧ Con ts (tl y) i m p) ∧ ∃ c, [some (V.str z), some (.str y), some (.ref l), some (.ref D), some (.str ⟨#[sg]⟩), some (.ref f), some (.int (m : Int))] = [some (.str z), some (.str y), some (.ref l), some (.ref D), some (.str ⟨#[sg]⟩), some (.ref f), c] := by
        intro p0 H7 hp0 k7
        refine ⟨(k6.trans k7).put f0, by rw [upd_ne fD.symm]; exact k7 _ _ hD6, ⟨ns ++ [p0], by rw [upd_same, List.map_append]; rfl, by rw [List.length_append]; show _ + 1 ≤ _; omega, fun p => ?_⟩, _, rfl⟩
        rw [List.mem_append, List.mem_singleton, hns, grow]
        constructor
        · rintro (⟨m', h1, h2⟩ | rfl)
          · exact ⟨m', List.mem_append_left _ h1, h2⟩
          · exact ⟨m, List.mem_append_right _ (List.mem_singleton.mpr rfl), (hp0 _).mpr rfl⟩
        · rintro ⟨m', h1, h2⟩
          rcases List.mem_append.mp h1 with h | h
          · exact .inl ⟨m', h, h2⟩
          · rw [show m' = m by have := List.mem_singleton.mp h; omega] at h2
            exact .inr ((hp0 p).mp h2)
      have hns1000 : (ns.map fun n : Nat => V.int (n : Int)).length ≤ 1000000 := by rw [List.length_map]; omega
      rw [show kV (Sum.inl (m : Int)) = V.int (m : Int) from rfl]
      walk_at "rd"
      refine rd_lenL (SqL.of hxs) ?_
      walk_at "rd"
      by_cases hmn : m < ts.length
      · rw [decide_eq_true (show (m : Int) < (xs.length : Int) by omega)]
        have hxm : xs[m]? = some xs[m] := List.getElem?_eq_getElem (by omega)
        obtain ⟨tk, htk, at1⟩ := pr_get hpr hxm
        obtain ⟨t, us, zz, et, ht2, ezz⟩ := at1.head (K := K)
        walk_at "rd"
        refine rd_ixL (SqL.of hxs) (atI_nat (hxm.trans (congrArg some et))) ?_
        walk_at "rd"
        refine rd_ixT (SqT.of ht2) (atI_nat (j := 0) rfl) ?_
        walk_at "rd"
        rw [ezz, ← any_at htk]
        cases hs : anyAt ts m with
        | true =>
          refine rd_yT ?_
          walk_at "rd"
          refine rd_tyL (SqL.of hf6) ?_
          walk_at "rd"
          refine rd_app hf6 (szLt hns1000) ?_
          walk_at "rd"
          exact take m H6 (fun p => by unfold Con; rw [hs]; simp) (Same.refl _)
        | false =>
          walk_at "rd"
          refine rd_lenL (SqL.of hxs) ?_
          walk_at "rd"
          rw [decide_eq_true (show (m : Int) < (xs.length : Int) by omega)]
          walk_at "rd"
          refine rd_ixL (SqL.of hxs) (atI_nat hxm) ?_
          walk_at "rd"
          have cc : ∀ p, Con ts (tl y) i m p ↔ p = m + 1 ∧ fitsT tk sg = true := fun p => by
            unfold Con
            rw [hs]
            constructor
            · rintro (⟨h, _⟩ | ⟨_, h, k', c', e1, e2, e3⟩)
              · cases h
              · rw [htk] at e1
                rw [hsg] at e2
                cases e1
                cases e2
                exact ⟨h, e3⟩
            · rintro ⟨h, h2⟩
              exact .inr ⟨rfl, h, tk, sg, htk, hsg, h2⟩
          refine ⟨tk, sg, at1, rfl, (fun e => by rw [any_at htk, e] at hs; cases hs), hset tk (List.mem_of_getElem? htk), fun H7 k7 => ?_⟩
          walk_at "rd"
          refine rd_ite (fun hft => ?_) (fun hft => ?_)
          · walk_at "rd"
            have hf7 := k7 _ _ hf6
            refine rd_tyL (SqL.of hf7) ?_
            walk_at "rd"
            refine rd_app hf7 (szLt hns1000) ?_
            walk_at "rd"
            exact take (m + 1) H7 (fun p => (cc p).trans ⟨And.left, fun h => ⟨h, hft⟩⟩) k7
          · walk_at "rd"
            exact skip (fun p h => by rw [((cc p).mp h).2] at hft; cases hft) H7 k7
      · rw [decide_eq_false (show ¬ (m : Int) < (xs.length : Int) by omega)]
        walk_at "rd"
        refine rd_lenL (SqL.of hxs) ?_
        walk_at "rd"
        rw [decide_eq_false (show ¬ (m : Int) < (xs.length : Int) by omega)]
        walk_at "rd"
        refine skip (fun p h => ?_) H6 (Same.refl _)
        rcases h with ⟨h, _⟩ | ⟨_, _, k', _, e1, _⟩
        · exact hmn (any_lt h)
        · exact hmn (List.getElem?_eq_some_iff.mp e1).1
    · rintro σ H6 ⟨k6, hD6, ⟨ns, hf6, lns, hns⟩, c2, rfl⟩
      refine ⟨hD6, ?_⟩
      rw [lk, List.take_length] at hns
      have hfol : ∀ p, p ∈ ns ↔ Fol ts (tl y) i p := fun p => (hns p).trans (by
        constructor
        · rintro ⟨m, h1, h2⟩
          obtain ⟨m', e, h3⟩ := (mem _).mp h1
          rw [show m' = m by omega] at h3
          rcases h2 with ⟨a1, rfl⟩ | ⟨a1, rfl, k', c', b1, b2, b3⟩
          · exact .inl ⟨h3, a1⟩
          · exact .inr ⟨m, k', c', rfl, h3, a1, b1, b2, b3⟩
        · rintro (⟨h1, h2⟩ | ⟨m, k', c', rfl, h3, a1, b1, b2, b3⟩)
          · exact ⟨p, (mem _).mpr ⟨p, rfl, h1⟩, .inl ⟨h2, rfl⟩⟩
          · exact ⟨m, (mem _).mpr ⟨m, rfl, h3⟩, .inr ⟨a1, rfl, k', c', b1, b2, b3⟩⟩)
      have k7 : Same H1 (upd H6 D (.dK kvs)) := k6.put hD0
      walk_at "rd"
      refine ⟨l, f, ts, ns, rfl, rfl, hT.same k7, hl, by rw [upd_ne fD]; exact hf6, (fun x hx => ?_), fun D2 H8 hD2 k8 hK8 => ?_⟩
      · rcases (hfol x).mp hx with ⟨h, _⟩ | ⟨q, k', _, rfl, _, _, e1, _⟩
        · exact h.le
        · have := (List.getElem?_eq_some_iff.mp e1).1
          omega
      walk_at "rd"
      refine ⟨k7.trans k8, D2, _, _, _, hK8.congr fun x => ?_, ?_, rfl⟩
      · rw [std_next]
        exact ⟨fun ⟨q, h1, h2⟩ => ⟨q, (hfol q).mp h1, h2⟩, fun ⟨q, h1, h2⟩ => ⟨q, (hfol q).mpr h1, h2⟩⟩
      · cases e : H1 D2 with
        | none => rfl
        | some o => rw [k7 _ _ e] at hD2; cases hD2
  · rintro σ H3 ⟨k3, D, a, b, c, hK, hD0, rfl⟩
    obtain ⟨xs, hxs, hpr⟩ := hT.same k3
    have lx : xs.length = ts.length := Paired.length hpr
    obtain ⟨kvs, ks, hD, ek, nd, mem⟩ := hK
    walk_at "rd"
    refine rd_dIn ?_
    walk_at "rd"
    refine rd_lenL (SqL.of hxs) ?_
    walk_at "rd"
    refine ⟨D, _, rfl, .inl ⟨kvs, .inl (xs.length : Int), .inl hD, rfl, rfl⟩, ?_⟩
    refine q _ H3 ?_ (k1.trans k3)
    rw [val_some, ek, List.mem_map]
    have e1 : y.cps.size = (tl y).length := Array.length_toList.symm
    rw [e1] at mem
    constructor
    · rintro ⟨x, hx, e⟩
      cases e
      obtain ⟨m, e2, h⟩ := (mem _).mp hx
      rw [show m = ts.length by omega, std_end] at h
      exact ⟨hdot, h⟩
    · rintro ⟨_, h⟩
      exact ⟨_, (mem _).mpr ⟨ts.length, by rw [lx], (std_end _ _).mpr h⟩, rfl⟩

/-! ## Patterns and names that are none -/
def nameB : V → Bool
  | .str y => decide (y.length ≤ 100)
  | _ => false
def AnyN (K : PySem.W.Frag) (H : Hp) (v : V) : Prop := (∃ y : Str, v = .str y ∧ y.length ≤ 1000) ∨ (nameB v = false ∧ ∃ t, TyX K H v t ∧ PySem.W.kitOne K t (.type "str") = some false)
theorem AnyN.mono {K : PySem.W.Frag} {H H' : Hp} {v : V} (e : Same H H') (h : AnyN K H v) : AnyN K H' v := by
  rcases h with h | ⟨h1, u, h2, h3⟩
  · exact .inl h
  · exact .inr ⟨h1, u, tyx_same e h2, h3⟩
def Φ_need_pattern (K : PySem.W.Frag) (mg : Str → Option Value) (v : V) (H : Hp) (Q : VK) (E : XK) : Prop := AnyP K H v ∧ (patB v = true → ∀ H', Same H H' → Q .non H') ∧ (patB v = false → ∀ C H', mg "InvalidPattern" = some (.ref C) → Same H H' → E (.ref C) none H')
theorem ok_need_pattern (T : Txt P K mg) {f : Addr} {fd : FuncData} (F : Fun K "need_pattern" "need_pattern" s_need_pattern f fd) : Keeps P w K mg base (L2.CX P w) 5 f fd ["pattern"] (sp1x (Φ_need_pattern K mg)) := by
  obtain ⟨C_InvalidPattern, e_InvalidPattern⟩ := T.e_InvalidPattern
  have c_is_a_pattern := cal (P := P) (w := w) (base := base) T.d_is_a_pattern fun F => ok_is_a_pattern T F
  refine keeps_of F sc_need_pattern (fun vs H Q E h => ?_) (fun cdv A outer s H vs Q E hr h => ?_)
  · obtain ⟨_, rfl, _⟩ := h
    rfl
  obtain ⟨v_pattern, rfl, h⟩ := h
  have hu := hr.hu
  refine ⟨_, (pss_one (ps_if (pt_not (pt_val (pe_cal c_is_a_pattern (hr.mono (by decide)) (by rfl) pass0 (pa_cons (pv 0) pa_nil)))) (pss_one (ps_raiseX rfl (takes_of rfl rfl rfl rfl) e_InvalidPattern (by rfl))) pss_nil)), ?_⟩
  rw [show start ["pattern"] [v_pattern] = [some v_pattern] from rfl]
  try dsimp only [cxOf, Cx.nox, Cx.wish]
  obtain ⟨hA, q0, q1⟩ := h
  walk_at "rd"
  refine ⟨hA, fun H1 k1 => ?_⟩
  walk_at "rd"
  cases hp : patB v_pattern with
  | true =>
    walk_at "rd"
    exact q0 hp H1 k1
  | false =>
    refine rd_yF ?_
    walk_at "rd"
    exact q1 hp _ H1 e_InvalidPattern.g k1
theorem itemsN_len : ∀ {n : Nat} {l : List Nat} {is : List (Nat × List Nat)}, itemsN n l = some is → is.length ≤ l.length
  | _, [], is, h => by
    rename_i n
    cases n <;> (cases h; exact Nat.le_refl _)
  | 0, c :: r, is, h => by cases h
  | n + 1, c :: r, is, h => by
    have h' : (if itemOk c (hiOf c r).1 = true then (itemsN n (hiOf c r).2).map ((c, (hiOf c r).1) :: ·) else none) = some is := h
    split at h'
    · obtain ⟨js, h1, rfl⟩ := Option.map_eq_some_iff.mp h'
      have h2 := itemsN_len h1
      have h3 := hiOf_le c r
      rw [List.length_cons, List.length_cons]
      omega
    · cases h'
theorem tokStep_set {c : Nat} {r t : List Nat} {k : Tk} (h : tokStep c r = some (k, t)) : ∀ n is, k = .set n is → is.length ≤ r.length := by
  rintro n is rfl
  unfold tokStep at h
  split at h
  · unfold setL at h
    split at h
    · cases h
    · rename_i b t' e
      obtain ⟨e1, _⟩ := cutAt_some e
      split at h
      · rename_i i js ei
        cases h
        have h1 := itemsN_len ei
        rw [e1, List.length_append]
        have h2 : (b.drop (if negOf r = true then 1 else 0)).length ≤ b.length := by rw [List.length_drop]; omega
        omega
      · cases h
  · unfold tkOf at h
    split at h
    · cases h
    · split at h <;> cases h
theorem toks_len : ∀ (n : Nat) {l : List Nat} {ts : List Tk}, l.length ≤ n → toks l = some ts → ts.length ≤ l.length ∧ ∀ k ∈ ts, ∀ m is, k = .set m is → is.length ≤ l.length
  | _, [], ts, _, h => by
    rw [toks_nil] at h
    cases h
    exact ⟨Nat.le_refl _, fun _ h => nomatch h⟩
  | 0, c :: r, _, h, _ => by cases h
  | n + 1, c :: r, ts, hl, h => by
    rw [toks_cons] at h
    rw [List.length_cons] at hl
    split at h
    · cases h
    · rename_i k t e
      obtain ⟨us, h1, rfl⟩ := Option.map_eq_some_iff.mp h
      have h2 := tokStep_le e
      obtain ⟨h3, h4⟩ := toks_len n (by omega) h1
      refine ⟨by rw [List.length_cons, List.length_cons]; omega, fun k' hk' m is e' => ?_⟩
      rw [List.length_cons]
      rcases List.mem_cons.mp hk' with rfl | hk'
      · have := tokStep_set e m is e'
        omega
      · have := h4 k' hk' m is e'
        omega
/-- a name fits a pattern -/
def Fit (z y : Str) : Prop := ((tl y).take 1 = [46] → (tl z).take 1 = [46]) ∧ ∃ ts, toks (tl z) = some ts ∧ FitR ts (tl y)

/-! ## The law's own pieces -/
/-- the signs of a piece -/
def PieceOk (l : List Nat) (k : Tk) : Prop := (∃ c, l = [c] ∧ c ≠ 91 ∧ k = tkOf c) ∨ ∃ b i is, l = 91 :: (b ++ [93]) ∧ 93 ∉ b ∧ b ≠ [] ∧ (negOf (b ++ [93]) = true → b ≠ [33]) ∧ itemsL (b.drop (if negOf (b ++ [93]) then 1 else 0)) = some (i :: is) ∧ k = .set (negOf (b ++ [93])) (i :: is) ∧ b.length ≤ 10
theorem cut_app {c : Nat} {b r : List Nat} (h : c ∉ b) : cutAt c (b ++ c :: r) = some (b, r) := by
  cases e : cutAt c (b ++ c :: r) with
  | none => exact absurd (List.mem_append_right b List.mem_cons_self) (cutAt_none e)
  | some p =>
    obtain ⟨b', t⟩ := p
    obtain ⟨e1, e2⟩ := cutAt_some e
    have key : ∀ (b b' : List Nat), c ∉ b → c ∉ b' → ∀ r t, b ++ c :: r = b' ++ c :: t → b = b' ∧ r = t := by
      intro b
      induction b with
      | nil =>
        intro b' _ h2 r t h
        cases b' with
        | nil => exact ⟨rfl, (List.cons.inj h).2⟩
        | cons x xs => exact absurd (by rw [(List.cons.inj h).1]; exact List.mem_cons_self) h2
      | cons y ys ih =>
        intro b' h1 h2 r t h
        cases b' with
        | nil => exact absurd (by rw [← (List.cons.inj h).1]; exact List.mem_cons_self) h1
        | cons x xs =>
          obtain ⟨a1, a2⟩ := List.cons.inj h
          obtain ⟨a3, a4⟩ := ih xs (fun q => h1 (List.mem_cons_of_mem _ q)) (fun q => h2 (List.mem_cons_of_mem _ q)) r t a2
          exact ⟨by rw [a1, a3], a4⟩
    obtain ⟨rfl, rfl⟩ := key b b' h e2 r t e1
    rfl
theorem piece_toks {l : List Nat} {k : Tk} (h : PieceOk l k) (r : List Nat) : toks (l ++ r) = (toks r).map (k :: ·) := by
  rcases h with ⟨c, rfl, h, rfl⟩ | ⟨b, i, is, rfl, h1, h2, _, h3, rfl, _⟩
  · exact toks_step (c := c) (r := r) (by unfold tokStep; rw [if_neg h] <;> rfl)
  · have e : (91 :: (b ++ [93])) ++ r = 91 :: (b ++ 93 :: r) := by simp
    rw [e]
    have neg : negOf (b ++ 93 :: r) = negOf (b ++ [93]) := by
      unfold negOf
      cases b with
      | nil => exact absurd rfl h2
      | cons x xs => rfl
    refine toks_step ?_
    unfold tokStep
    rw [if_pos rfl]
    unfold setL
    rw [cut_app h1]
    simp only [neg, h3]
theorem pieces_toks : ∀ {ps : List (List Nat × Tk)}, (∀ p ∈ ps, PieceOk p.1 p.2) → toks (ps.map (·.1)).flatten = some (ps.map (·.2))
  | [], _ => toks_nil
  | p :: ps, h => by
    rw [List.map_cons, List.flatten_cons, piece_toks (h p List.mem_cons_self), pieces_toks fun q hq => h q (List.mem_cons_of_mem _ hq)]
    rfl
theorem piece_ne {l : List Nat} {k : Tk} (h : PieceOk l k) : l ≠ [] := by
  rcases h with ⟨c, rfl, _⟩ | ⟨b, i, is, rfl, _⟩ <;> exact fun q => nomatch q
theorem piece_le {l : List Nat} {k : Tk} (h : PieceOk l k) : l.length ≤ 12 := by
  rcases h with ⟨c, rfl, _⟩ | ⟨b, i, is, rfl, _, _, _, _, _, h⟩
  · exact Nat.le_of_ble_eq_true rfl
  · rw [List.length_cons, List.length_append]
    show b.length + 1 + 1 ≤ 12
    omega
def Pcs (ps : List (List Nat × Tk)) : Prop := ps.length ≤ 8 ∧ ∀ p ∈ ps, PieceOk p.1 p.2
theorem pcs_le {ps : List (List Nat × Tk)} (h : ∀ p ∈ ps, PieceOk p.1 p.2) : (ps.map (·.1)).flatten.length ≤ 12 * ps.length := by
  induction ps with
  | nil => exact Nat.le_refl _
  | cons p ps ih =>
    rw [List.map_cons, List.flatten_cons, List.length_append, List.length_cons]
    have := ih fun q hq => h q (List.mem_cons_of_mem _ hq)
    have := piece_le (h p List.mem_cons_self)
    omega
/-- the list of the pieces' texts -/
def PTxt (xs : List V) (ps : List (List Nat × Tk)) : Prop := xs = ps.map fun p => V.str (mk p.1)
def Φ_law_tokens (K : PySem.W.Frag) (v : V) (H : Hp) (Q : VK) : Prop := ∃ (z : Str) (ps : List (List Nat × Tk)), v = .str z ∧ tl z = (ps.map (·.1)).flatten ∧ Pcs ps ∧
  ∀ (D : Addr) (H' : Hp), H D = none → Same H H' → H' D = some (.lst (ps.map fun p => V.str (mk p.1))) → Q (.ref D) H'
theorem ok_law_tokens (T : Txt P K mg) {f : Addr} {fd : FuncData} (F : Fun K "_law_tokens" "_law_tokens" s_law_tokens f fd) : Keeps P w K mg base CX0 1 f fd ["pattern"] (sp1 (Φ_law_tokens K)) := by
  refine keeps0_of F sc_law_tokens (fun vs H Q E h => ?_) (fun cdv A outer s H vs Q E hr h => ?_)
  · obtain ⟨_, rfl, _⟩ := h
    rfl
  obtain ⟨v_pattern, rfl, h⟩ := h
  have hu := hr.hu
  refine ⟨_, (pss_cons (ps_set (i := 1) sc_law_tokens.nd rfl (by first | exact Or.inl rfl | exact Or.inr rfl) (pe_lst pa_nil))
      (pss_cons (ps_set (i := 2) sc_law_tokens.nd rfl (by first | exact Or.inl rfl | exact Or.inr rfl) (pv 0))
      (pss_cons (ps_while PassesOwn.never (pt_cmpR (oNe (K := K) hr.u65) (pv 2) pe_str (nomark _)) (pss_cons (ps_set (i := 3) sc_law_tokens.nd rfl (by first | exact Or.inl rfl | exact Or.inr rfl) (pe_ifExp (pt_cmpR (oEq (K := K) hr.u65) (pe_ix (ixX (K := K)) (pv 2) pe_int (fun _ _ => rfl)) pe_str (nomark _)) (pe_op (oAdd (K := K)) (pe_m1 PySem.F.slot_str_find PySem.F.type_str_find mt_find (pv 2) pe_str) pe_int) pe_int))
      (pss_cons (ps_expr (pe_bmX (K := K) PySem.F.plainAttrs_list PySem.F.slot_list_append PySem.F.type_list_append mt_append (pv 1) (pa_cons (pe_slice (sX (K := K)) (pv 2) po_none (po_some (pv 3))) pa_nil)))
      (pss_one (ps_set (i := 2) sc_law_tokens.nd rfl (by first | exact Or.inl rfl | exact Or.inr rfl) (pe_slice (sX (K := K)) (pv 2) (po_some (pv 3)) po_none))))))
      (pss_one (ps_ret (pv 1)))))), ?_⟩
  rw [show start ["pattern", "found", "left", "end"] [v_pattern] = [some v_pattern, none, none, none] from rfl]
  try dsimp only [cxOf, Cx.nox, Cx.wish]
  obtain ⟨z, ps, rfl, hz, ⟨hl, hps⟩, q⟩ := h
  have lz := len_tl z
  have lp := pcs_le hps
  rw [← hz] at lp
  walk_at "rd"
  intro D hD
  have k0 := (Same.refl H).new (o := .lst []) hD
  walk_at "rd"
  refine rd_while (fun m σ H' => ∃ (y : Str) (a b : List (List Nat × Tk)) (e : Option V), m = b.length ∧ ps = a ++ b ∧ tl y = (b.map (·.1)).flatten ∧ Same H H' ∧ H' D = some (.lst (a.map fun p => V.str (mk p.1))) ∧ σ = [some (.str z), some (.ref D), some (.str y), e])
    ps.length ⟨z, [], ps, _, rfl, rfl, hz, k0, upd_same, rfl⟩ ?_
  rintro m σ H1 ⟨y, a, b, e, rfl, rfl, hy, k1, hD1, rfl⟩
  have ly := len_tl y
  have hpb : ∀ p ∈ b, PieceOk p.1 p.2 := fun p hp => hps p (List.mem_append_right _ hp)
  have lb := pcs_le hpb
  rw [← hy] at lb
  rw [List.length_append] at hl
  walk_at "rd"
  rw [dec_tl, tl_nil]
  cases b with
  | nil =>
    have e0 : tl y = [] := hy
    rw [List.append_nil] at q
    refine rd_noI (by rw [e0]; rfl) ?_
    walk_at "rd"
    exact q D H1 hD k1 hD1
  | cons p b =>
    have hp := hpb p List.mem_cons_self
    have hy' : tl y = p.1 ++ (b.map (·.1)).flatten := hy
    have ne : tl y ≠ [] := fun h => by rw [hy'] at h; exact piece_ne hp (List.append_eq_nil_iff.mp h).1
    refine rd_yesI (by rw [decide_eq_false ne]; rfl) ?_
    refine rd_turn ?_
    have la : (a.map fun p => V.str (mk p.1)).length ≤ 1000000 := by rw [List.length_map]; omega
    have lyy : y.length ≤ 1000 := by
      rw [List.length_cons] at lb
      simp only [List.length_cons] at hl
      omega
    -- what is cut off
    have fin : ∀ n : Nat, n = p.1.length → tSeq (tDrop (tBM K "list" rAppend (tVar 1) (tCons (L2.tSl (xSl K) (tVar 2) tNoPart (tPart (tVar 3))) tNil))) (tAsg (L2.tSl (xSl K) (tVar 2) (tPart (tVar 3)) tNoPart) (gName 2))
        { nx := fun σ' H' => ∃ m', m' < (p :: b).length ∧ ∃ (y : Str) (a' b' : List (List Nat × Tk)) (e : Option V), m' = b'.length ∧ a ++ p :: b = a' ++ b' ∧ tl y = (b'.map (·.1)).flatten ∧ Same H H' ∧ H' D = some (.lst (a'.map fun p => V.str (mk p.1))) ∧ σ' = [some (.str z), some (.ref D), some (.str y), e], rt := Q }
        [some (.str z), some (.ref D), some (.str y), some (.int n)] H1 := by
      intro n hn
      walk_at "rd"
      refine rd_tyL (SqL.of hD1) ?_
      walk_at "rd"
      refine rd_app hD1 (szLt la) ?_
      walk_at "rd"
      refine ⟨b.length, by rw [List.length_cons]; omega, cutS y (some (n : Int)) none, a ++ [p], b, _, rfl, by simp, ?_, k1.put hD, ?_, rfl⟩
      · rw [tl_drop, hy', hn, List.drop_left]
      · rw [upd_same, List.map_append]
        have e1 : cutS y none (some (n : Int)) = mk p.1 := str_ext (by rw [tl_take, tl_mk, hy', hn, List.take_left])
        rw [e1]
        rfl
    walk_at "rd"
    rcases hp with ⟨c, ep, hc, ek⟩ | ⟨bd, i, is, ep, h93, _, _, _, _, hbd⟩
    · refine rd_ixS (c := c) (szOk (show y.length ≤ 1000000 by omega)) (atI_nat (j := 0) (by show (tl y)[0]? = _; rw [hy', ep]; rfl)) ?_
      walk_at "rd"
      refine rd_noI (by rw [dec_tl, show tl ("[" : Str) = [91] by decide +kernel]; exact decide_eq_false fun h => hc (List.cons.inj h).1) ?_
      refine rd_c ?_
      refine rd_gname rfl ?_
      exact fin 1 (by rw [ep]; rfl)
    · refine rd_ixS (c := 91) (szOk (show y.length ≤ 1000000 by omega)) (atI_nat (j := 0) (by show (tl y)[0]? = _; rw [hy', ep]; rfl)) ?_
      walk_at "rd"
      refine rd_yesI (by rw [dec_tl, show tl ("[" : Str) = [91] by decide +kernel]; exact decide_eq_true rfl) ?_
      walk_at "rd"
      have fnd : Txt.find y "]" = ((bd.length + 1 : Nat) : Int) := by
        rw [show ("]" : Str) = ⟨#[93]⟩ by decide +kernel, find_cut0, hy', ep]
        have e2 : (91 :: (bd ++ [93])) ++ (b.map (·.1)).flatten = (91 :: bd) ++ 93 :: (b.map (·.1)).flatten := by simp
        rw [e2, cut_app (by
          intro h
          rcases List.mem_cons.mp h with h | h
          · cases h
          · exact h93 h)] <;> rfl
      refine ⟨_, _, rfl, rfl, ?_⟩
      rw [fnd]
      have e3 : ((bd.length + 1 : Nat) : Int) + 1 = ((bd.length + 2 : Nat) : Int) := by omega
      refine rd_c ?_
      refine rd_addI ?_
      rw [e3]
      refine rd_gname rfl ?_
      exact fin (bd.length + 2) (by rw [ep, List.length_cons, List.length_append] <;> rfl)
theorem strict_one {a c : Nat} : decide (([c] : List Nat) < [a]) = decide (c < a) := lt_sign c a
def Φ_law_one_fits (K : PySem.W.Frag) (vt vs : V) (H : Hp) (Q : VK) : Prop := ∃ (z : Str) (k : Tk) (c : Nat), vt = .str z ∧ vs = .str ⟨#[c]⟩ ∧ PieceOk (tl z) k ∧ k ≠ .any ∧ ∀ H', Same H H' → Q (.bl (fitsT k c)) H'
theorem ok_law_one_fits (T : Txt P K mg) {f : Addr} {fd : FuncData} (F : Fun K "_law_one_fits" "_law_one_fits" s_law_one_fits f fd) : Keeps P w K mg base CX0 1 f fd ["token", "sign"] (sp2 (Φ_law_one_fits K)) := by
  refine keeps0_of F sc_law_one_fits (fun vs H Q E h => ?_) (fun cdv A outer s H vs Q E hr h => ?_)
  · obtain ⟨_, _, rfl, _⟩ := h
    rfl
  obtain ⟨v_token, v_sign, rfl, h⟩ := h
  have hu := hr.hu
  refine ⟨_, (pss_meet (ps_if (PW.pt (pw_or (pt_cmpR (oNe (K := K) hr.u65) (pe_ix (ixX (K := K)) (pv 0) pe_int (fun _ _ => rfl)) pe_str (nomark _)) (pw_or1 (pt_cmpR (oEq (K := K) hr.u65) (pv 0) pe_str (nomark _))))) (pss_one (ps_ret (pe_or (pe_cmpR (oEq (K := K) hr.u65) (pv 0) pe_str (nomark _)) (pe_one (pe_cmpR (oEq (K := K) hr.u65) (pv 0) (pv 1) (nomark _)))))) pss_nil)
      (pss_cons (ps_set (i := 2) sc_law_one_fits.nd rfl (by first | exact Or.inl rfl | exact Or.inr rfl) (pe_slice (sX (K := K)) (pv 0) (po_some pe_int) (po_some (pe_un un_neg pe_int))))
      (pss_cons (ps_set (i := 3) sc_law_one_fits.nd rfl (by first | exact Or.inl rfl | exact Or.inr rfl) (pe_cmpR (oEq (K := K) hr.u65) (pe_ix (ixX (K := K)) (pv 2) pe_int (fun _ _ => rfl)) pe_str (nomark _)))
      (pss_meet (ps_if (pt_val (pv 3)) (pss_one (ps_set (i := 2) sc_law_one_fits.nd rfl (by first | exact Or.inl rfl | exact Or.inr rfl) (pe_slice (sX (K := K)) (pv 2) (po_some pe_int) po_none))) pss_nil)
      (pss_cons (ps_set (i := 4) sc_law_one_fits.nd rfl (by first | exact Or.inl rfl | exact Or.inr rfl) pe_bl)
      (pss_cons (ps_while PassesOwn.never (pt_cmpR (oNe (K := K) hr.u65) (pv 2) pe_str (nomark _)) (pss_cons (ps_set (i := 5) sc_law_one_fits.nd rfl (by first | exact Or.inl rfl | exact Or.inr rfl) (pe_ifExp (pt_cmpR (oEq (K := K) hr.u65) (pe_slice (sX (K := K)) (pv 2) (po_some pe_int) (po_some pe_int)) pe_str (nomark _)) (pe_ix (ixX (K := K)) (pv 2) pe_int (fun _ _ => rfl)) (pe_ix (ixX (K := K)) (pv 2) pe_int (fun _ _ => rfl))))
      (pss_cons (ps_set (i := 4) sc_law_one_fits.nd rfl (by first | exact Or.inl rfl | exact Or.inr rfl) (pe_or (pv 4) (pe_one (pe_chain oLe oLe (pe_ix (ixX (K := K)) (pv 2) pe_int (fun _ _ => rfl)) (pv 1) (pv 5)))))
      (pss_one (ps_set (i := 2) sc_law_one_fits.nd rfl (by first | exact Or.inl rfl | exact Or.inr rfl) (pe_ifExp (pt_cmpR (oEq (K := K) hr.u65) (pe_slice (sX (K := K)) (pv 2) (po_some pe_int) (po_some pe_int)) pe_str (nomark _)) (pe_slice (sX (K := K)) (pv 2) (po_some pe_int) po_none) (pe_slice (sX (K := K)) (pv 2) (po_some pe_int) po_none)))))))
      (pss_one (ps_ret (pe_cmpR (oNe (K := K) hr.u65) (pv 4) (pv 3) (nomark _)))))))))), ?_⟩
  rw [show start ["token", "sign", "body", "is_other", "held", "high"] [v_token, v_sign] = [some v_token, some v_sign, none, none, none, none] from rfl]
  try dsimp only [cxOf, Cx.nox, Cx.wish]
  obtain ⟨z, k, sg, rfl, rfl, hp, hne, q⟩ := h
  have lz := len_tl z
  have lp := piece_le hp
  have ob : tl ("[" : Str) = [91] := by decide +kernel
  have oq : tl ("?" : Str) = [63] := by decide +kernel
  have oe : tl ("!" : Str) = [33] := by decide +kernel
  have od : tl ("-" : Str) = [45] := by decide +kernel
  have en : decide (z = "[") = decide (tl z = [91]) := by rw [dec_tl, ob]
  rcases hp with ⟨c, ep, hc, rfl⟩ | ⟨bd, i, is, ep, h93, hb0, hb1, hit, rfl, hbd⟩
  · refine rd_meet (fun _ _ => False) ?_ (fun _ _ h => h.elim)
    walk_at "rd"
    refine rd_ixS (c := c) (szOk (show z.length ≤ 1000000 by omega)) (atI_nat (j := 0) (by show (tl z)[0]? = _; rw [ep]; rfl)) ?_
    walk_at "rd"
    refine rd_yesI (by rw [dec_tl, ob]; show (!decide ([c] = [91])) = true; rw [decide_eq_false fun h => hc (List.cons.inj h).1]; rfl) ?_
    walk_at "rd"
    have hne' : c ≠ 42 := fun e => hne (by unfold tkOf; rw [if_pos e])
    have e1 : decide (z = "?") = decide (c = 63) := by
      rw [dec_tl, oq, ep]
      exact decide_eq_decide.mpr ⟨fun h => (List.cons.inj h).1, fun h => by rw [h]⟩
    have e2 : decide (z = ⟨#[sg]⟩) = decide (c = sg) := by
      rw [dec_tl, tl_sg, ep]
      exact decide_eq_decide.mpr ⟨fun h => (List.cons.inj h).1, fun h => by rw [h]⟩
    rw [e1]
    refine rd_ite (fun h => ?_) (fun h => ?_)
    · have := q H (Same.refl H)
      rw [show fitsT (tkOf c) sg = true by unfold tkOf; rw [if_neg hne', if_pos (of_decide_eq_true h)] <;> rfl] at this
      exact this
    · walk_at "rd"
      rw [e2]
      have := q H (Same.refl H)
      rw [show fitsT (tkOf c) sg = decide (c = sg) by unfold tkOf; rw [if_neg hne', if_neg (of_decide_eq_false h)] <;> rfl] at this
      exact this
  · have hz0 : (tl z)[0]? = some 91 := by rw [ep]; rfl
    refine rd_meet (fun σ' H' => H' = H ∧ σ' = [some (.str z), some (.str ⟨#[sg]⟩), none, none, none, none]) ?_ ?_
    · walk_at "rd"
      refine rd_ixS (c := 91) (szOk (show z.length ≤ 1000000 by omega)) (atI_nat (j := 0) hz0) ?_
      walk_at "rd"
      refine rd_noI (by rw [dec_tl, ob]; rfl) ?_
      walk_at "rd"
      refine rd_noI (by rw [en, ep]; exact decide_eq_false fun h => by have := (List.cons.inj h).2; cases bd <;> cases this) ?_
      walk_at "rd"
      exact ⟨rfl, rfl⟩
    · rintro _ H' ⟨rfl, rfl⟩
      walk_at "rd"
      refine ⟨1, rfl, ?_⟩
      walk_at "rd"
      have hbody : tl (cutS z (some 1) (some (-1))) = bd := by
        rw [tl_cut, ep]
        have lz2 : z.length = bd.length + 2 := by rw [← lz, ep, List.length_cons, List.length_append] <;> rfl
        rw [show HT.sIx z.length z.length (some (-1)) = bd.length + 1 by show (if (-1 : Int) < 0 then ((-1 : Int) + (z.length : Int)).toNat else min ((-1 : Int)).toNat z.length) = _; rw [if_pos (by decide), lz2]; omega, show HT.sIx z.length 0 (some 1) = 1 by show (if (1 : Int) < 0 then ((1 : Int) + (z.length : Int)).toNat else min ((1 : Int)).toNat z.length) = _; rw [if_neg (by decide), lz2]; show min 1 _ = 1; omega]
        show (bd ++ [93]).take (bd.length + 1 - 1) = bd
        rw [show bd.length + 1 - 1 = bd.length by omega, List.take_left]
      have lbd : (cutS z (some 1) (some (-1))).length = bd.length := by rw [← len_tl, hbody]
      generalize cutS z (some 1) (some (-1)) = body at hbody lbd
      obtain ⟨x, xs, ebd⟩ : ∃ x xs, bd = x :: xs := by
        cases bd with
        | nil => exact absurd rfl hb0
        | cons x xs => exact ⟨x, xs, rfl⟩
      have eneg : negOf (bd ++ [93]) = decide (x = 33) := by
        rw [ebd]
        exact decide_eq_decide.mpr ⟨fun h => (List.cons.inj h).1, fun h => by rw [h]; rfl⟩
      refine rd_ixS (c := x) (szOk (show body.length ≤ 1000000 by omega)) (atI_nat (j := 0) (by show (tl body)[0]? = _; rw [hbody, ebd]; rfl)) ?_
      walk_at "rd"
      have e5 : decide ((⟨#[x]⟩ : Str) = "!") = negOf (bd ++ [93]) := by
        rw [dec_tl, oe, tl_sg, eneg]
        exact decide_eq_decide.mpr ⟨fun h => (List.cons.inj h).1, fun h => by rw [h]⟩
      rw [e5]
      generalize negOf (bd ++ [93]) = neg at hit q
      refine rd_meet (fun σ' H2 => H2 = H' ∧ ∃ y : Str, tl y = bd.drop (if neg = true then 1 else 0) ∧ σ' = [some (.str z), some (.str ⟨#[sg]⟩), some (.str y), some (.bl neg), none, none]) ?_ ?_
      · walk_at "rd"
        refine rd_ite (fun hn => ?_) (fun hn => ?_)
        · walk_at "rd"
          refine ⟨rfl, _, ?_, rfl⟩
          rw [show (some (1 : Int)) = some ((1 : Nat) : Int) from rfl, tl_drop, hbody, if_pos hn]
        · walk_at "rd"
          refine ⟨rfl, body, ?_, rfl⟩
          rw [hn, if_neg Bool.false_ne_true, hbody]
          rfl
      · rintro _ H2 ⟨rfl, y0, hy0, rfl⟩
        walk_at "rd"
        refine rd_while (fun m σ' H3 => ∃ (y : Str) (held : Bool) (js : List (Nat × List Nat)) (e : Option V), m = (tl y).length ∧ (tl y).length ≤ 10 ∧ H3 = H2 ∧ itemsL (tl y) = some js ∧ (held || js.any fun p => inI p sg) = ((i :: is).any fun p => inI p sg) ∧ σ' = [some (.str z), some (.str ⟨#[sg]⟩), some (.str y), some (.bl neg), some (.bl held), e])
          (tl y0).length ⟨y0, false, i :: is, _, rfl, by rw [hy0, List.length_drop]; omega, rfl, by rw [hy0]; exact hit, rfl, rfl⟩ ?_
        rintro m σ' H3 ⟨y, held, js, e, rfl, hy10, rfl, hjs, hany, rfl⟩
        have ly := len_tl y
        walk_at "rd"
        rw [dec_tl, tl_nil]
        rcases tl_cases y with ey | ⟨c, r, ey⟩
        · rw [ey] at hjs
          rw [itemsL_nil] at hjs
          cases hjs
          refine rd_noI (by rw [ey]; rfl) ?_
          walk_at "rd"
          have := q _ (Same.refl _)
          rw [show fitsT (.set neg (i :: is)) sg = (held != neg) by
            show (neg != (i :: is).any fun p => inI p sg) = _
            rw [← hany]
            cases held <;> cases neg <;> rfl] at this
          exact this
        · refine rd_yesI (by rw [ey]; rfl) ?_
          refine rd_turn ?_
          rw [ey, itemsL_cons] at hjs
          rw [ey, List.length_cons] at hy10 ly
          split at hjs
          rotate_left
          · cases hjs
          rename_i hok
          obtain ⟨js', hjs', rfl⟩ := Option.map_eq_some_iff.mp hjs
          have hc0 : (tl y)[0]? = some c := by rw [ey]; rfl
          have szy : y.length ≤ 1000000 := by omega
          have e12 : decide (cutS y (some 1) (some 2) = "-") = decide (r.take 1 = [45]) := by
            rw [dec_tl, od, show (some (1 : Int)) = some ((1 : Nat) : Int) from rfl, show (some (2 : Int)) = some ((2 : Nat) : Int) from rfl, tl_mid _ _ _ (by omega), ey] <;> rfl
          -- the end of a turn
          have fin : ∀ (h : Nat) (y2 : Str), (hiOf c r).1 = [h] → tl y2 = (hiOf c r).2 → ∀ (e : Option V) (hd : Bool), hd = (held || inI (c, [h]) sg) → ∃ m', m' < (tl y).length ∧ ∃ (y' : Str) (held' : Bool) (js : List (Nat × List Nat)) (e' : Option V), m' = (tl y').length ∧ (tl y').length ≤ 10 ∧ H3 = H3 ∧ itemsL (tl y') = some js ∧ (held' || js.any fun p => inI p sg) = ((i :: is).any fun p => inI p sg) ∧ [some (V.str z), some (.str ⟨#[sg]⟩), some (.str y2), some (.bl neg), some (.bl hd), e] = [some (.str z), some (.str ⟨#[sg]⟩), some (.str y'), some (.bl neg), some (.bl held'), e'] := by
            intro h y2 e1 e2 e hd ehd
            have := hiOf_le c r
            refine ⟨_, ?_, y2, hd, js', _, rfl, ?_, rfl, by rw [e2]; exact hjs', ?_, rfl⟩
            · rw [e2, ey, List.length_cons]; omega
            · rw [e2]; omega
            · rw [← hany, ehd, List.any_cons, e1, Bool.or_assoc]
          have chain : ∀ (h : Nat) (Q2 : VK), Q2 (.bl (held || inI (c, [h]) sg)) H3 → tOrV (tVar 4) (tChain xLe xLe (tOp (xIx K) (tVar 2) (tC (V.int 0))) (tVar 1) (tVar 5)) [some (V.str z), some (.str ⟨#[sg]⟩), some (.str y), some (.bl neg), some (.bl held), some (.str ⟨#[h]⟩)] H3 Q2 := by
            intro h Q2 q2
            walk_at "rd"
            cases held with
            | true => exact q2
            | false =>
              rw [Bool.false_or] at q2
              walk_at "rd"
              refine rd_ixS (c := c) (szOk szy) (atI_nat (j := 0) hc0) ?_
              walk_at "rd"
              have e6 : (!decide ((⟨#[sg]⟩ : Str).cps.toList < (⟨#[c]⟩ : Str).cps.toList)) = !decide (([sg] : List Nat) < [c]) := rfl
              rw [e6]
              unfold inI at q2
              cases e7 : (!decide (([sg] : List Nat) < [c])) with
              | false =>
                rw [e7, Bool.false_and] at q2
                exact q2
              | true =>
                rw [e7, Bool.true_and] at q2
                walk_at "rd"
                exact q2
          walk_at "rd"
          rw [e12]
          refine rd_ite (fun h1 => ?_) (fun h1 => ?_)
          · have h1' := of_decide_eq_true h1
            obtain ⟨r1, er⟩ : ∃ r1, r = 45 :: r1 := by
              cases r with
              | nil => cases h1'
              | cons a as => exact ⟨as, by rw [(List.cons.inj h1').1]⟩
            have eh : hiOf c r = (r1.take 1, r1.drop 1) := by unfold hiOf; rw [if_pos h1', er] <;> rfl
            obtain ⟨h, r2, er1⟩ : ∃ h r2, r1 = h :: r2 := by
              cases r1 with
              | nil => rw [eh] at hok; cases hok
              | cons a as => exact ⟨a, as, rfl⟩
            rw [er1] at eh
            refine rd_op ?_
            refine rd_var rfl ?_
            refine rd_c ?_
            refine rd_ixS (c := h) (szOk szy) (atI_nat (j := 2) (by show (tl y)[2]? = _; rw [ey, er, er1]; rfl)) ?_
            refine rd_gname rfl ?_
            walk_at "rd1"
            walk_at "rd1"
            refine chain h _ ?_
            refine rd_gname rfl ?_
            walk_at "rd"
            rw [e12]
            refine rd_yesI h1 ?_
            walk_at "rd"
            exact fin h _ (by rw [eh]; rfl) (by rw [show (some (3 : Int)) = some ((3 : Nat) : Int) from rfl, tl_drop, eh, ey, er, er1]; rfl) _ _ rfl
          · have h1' := of_decide_eq_false h1
            have eh : hiOf c r = ([c], r) := by unfold hiOf; rw [if_neg h1']
            refine rd_op ?_
            refine rd_var rfl ?_
            refine rd_c ?_
            refine rd_ixS (c := c) (szOk szy) (atI_nat (j := 0) hc0) ?_
            refine rd_gname rfl ?_
            walk_at "rd1"
            walk_at "rd1"
            refine chain c _ ?_
            refine rd_gname rfl ?_
            walk_at "rd"
            rw [e12]
            refine rd_noI h1 ?_
            walk_at "rd"
            exact fin c _ (by rw [eh]) (by rw [show (some (1 : Int)) = some ((1 : Nat) : Int) from rfl, tl_drop, ey, eh]; rfl) _ _ rfl
theorem piece_star {l : List Nat} {k : Tk} (h : PieceOk l k) : decide (mk l = "*") = isAny k := by
  have os : tl ("*" : Str) = [42] := by decide +kernel
  rw [dec_tl, tl_mk, os]
  rcases h with ⟨c, rfl, _, rfl⟩ | ⟨b, i, is, rfl, _, _, _, _, rfl, _⟩
  · unfold tkOf
    by_cases e : c = 42
    · rw [if_pos e, e]; rfl
    · rw [if_neg e]
      have : decide ([c] = [42]) = false := decide_eq_false fun h => e (List.cons.inj h).1
      rw [this]
      split <;> rfl
  · exact decide_eq_false fun h => by cases (List.cons.inj h).1
def Φ_law_fits (K : PySem.W.Frag) (vp vn : V) (H : Hp) (Q : VK) : Prop := ∃ (z y : Str) (ps : List (List Nat × Tk)), vp = .str z ∧ vn = .str y ∧ tl z = (ps.map (·.1)).flatten ∧ Pcs ps ∧ 1 ≤ ps.length ∧ y.length ≤ 100 ∧ ∀ (b : Bool) (H' : Hp), (b = true ↔ Fit z y) → Same H H' → Q (.bl b) H'
theorem in_bls (bs : List Bool) : inV (.bl true) (bs.map V.bl) = bs.any _root_.id := by
  induction bs with
  | nil => rfl
  | cons b bs ih =>
    rw [List.map_cons, List.any_cons, ← ih]
    cases b <;> rfl
theorem ok_law_fits (T : Txt P K mg) {f : Addr} {fd : FuncData} (F : Fun K "_law_fits" "_law_fits" s_law_fits f fd) : Keeps P w K mg base CX0 2 f fd ["pattern", "name"] (sp2 (Φ_law_fits K)) := by
  have c_law_tokens := cal (P := P) (w := w) (base := base) T.d_law_tokens fun F => ok_law_tokens T F
  have c_law_one_fits := cal (P := P) (w := w) (base := base) T.d_law_one_fits fun F => ok_law_one_fits T F
  refine keeps0_of F sc_law_fits (fun vs H Q E h => ?_) (fun cdv A outer s H vs Q E hr h => ?_)
  · obtain ⟨_, _, rfl, _⟩ := h
    rfl
  obtain ⟨v_pattern, v_name, rfl, h⟩ := h
  have hu := hr.hu
  refine ⟨_, (pss_meet (ps_if (PW.pt (pw_and (pt_cmpR (oEq (K := K) hr.u65) (pe_slice (sX (K := K)) (pv 1) po_none (po_some pe_int)) pe_str (nomark _)) (pw_and1 (pt_cmpR (oNe (K := K) hr.u65) (pe_ix (ixX (K := K)) (pv 0) pe_int (fun _ _ => rfl)) pe_str (nomark _))))) (pss_one (ps_ret pe_bl)) pss_nil)
      (pss_cons (ps_set (i := 2) sc_law_fits.nd rfl (by first | exact Or.inl rfl | exact Or.inr rfl) (pe_op (oAdd (K := K)) (pe_lst (pa_cons pe_bl pa_nil)) (pe_op (oMul (K := K)) (pe_lst (pa_cons pe_bl pa_nil)) (pe_callB (call_lenX (K := K)) (by rfl) T.b_len (by decide +kernel) (pa_cons (pv 1) pa_nil)))))
      (pss_cons (ps_for PassesOwn.never rfl (pi_any (K := K) (pe_cal c_law_tokens (hr.mono (by decide)) (by rfl) pass0 (pa_cons (pv 0) pa_nil))) (pg_name (i := 3) sc_law_fits.nd rfl (by first | exact Or.inl rfl | exact Or.inr rfl)) (pss_cons (ps_set (i := 4) sc_law_fits.nd rfl (by first | exact Or.inl rfl | exact Or.inr rfl) (pe_op (oMul (K := K)) (pe_lst (pa_cons pe_bl pa_nil)) (pe_op (oAdd (K := K)) (pe_callB (call_lenX (K := K)) (by rfl) T.b_len (by decide +kernel) (pa_cons (pv 1) pa_nil)) pe_int)))
      (pss_cons (ps_for PassesOwn.never rfl (pi_range1 (by rfl) T.b_range (pa_cons (pe_op (oAdd (K := K)) (pe_callB (call_lenX (K := K)) (by rfl) T.b_len (by decide +kernel) (pa_cons (pv 1) pa_nil)) pe_int) pa_nil)) (pg_name (i := 5) sc_law_fits.nd rfl (by first | exact Or.inl rfl | exact Or.inr rfl)) (pss_one (ps_if (pt_cmpR (oEq (K := K) hr.u65) (pv 3) pe_str (nomark _)) (pss_one (ps_asg (pe_cmpR (oIn (K := K) hr.u65) pe_bl (pe_slice (sX (K := K)) (pv 2) po_none (po_some (pe_op (oAdd (K := K)) (pv 5) pe_int))) (by rfl)) (pg_sub (pv 4) (pv 5) set_list))) (pss_one (ps_if (pt_cmpR oGt (pv 5) pe_int (nomark _)) (pss_one (ps_asg (pe_and (pe_ix (ixX (K := K)) (pv 2) (pe_op oSub (pv 5) pe_int) (fun _ _ => rfl)) (pe_one (pe_cal c_law_one_fits (hr.mono (by decide)) (by rfl) pass0 (pa_cons (pv 3) (pa_cons (pe_ix (ixX (K := K)) (pv 1) (pe_op oSub (pv 5) pe_int) (fun _ _ => rfl)) pa_nil))))) (pg_sub (pv 4) (pv 5) set_list))) pss_nil)))))
      (pss_one (ps_set (i := 2) sc_law_fits.nd rfl (by first | exact Or.inl rfl | exact Or.inr rfl) (pv 4))))))
      (pss_one (ps_ret (pe_ix (ixX (K := K)) (pv 2) (pe_un un_neg pe_int) (fun _ _ => rfl))))))), ?_⟩
  rw [show start ["pattern", "name", "row", "token", "new", "at"] [v_pattern, v_name] = [some v_pattern, some v_name, none, none, none, none] from rfl]
  try dsimp only [cxOf, Cx.nox, Cx.wish]
  obtain ⟨z, y, ps, rfl, rfl, hz, ⟨hl, hps⟩, hl1, hy, q⟩ := h
  have lz := len_tl z
  have ly := len_tl y
  have lp := pcs_le hps
  rw [← hz] at lp
  have ets := pieces_toks hps
  rw [← hz] at ets
  have take1 : ∀ (a : Str), decide (cutS a none (some 1) = ".") = decide ((tl a).take 1 = [46]) := fun a => by
    rw [dec_tl, show (some (1 : Int)) = some ((1 : Nat) : Int) from rfl, tl_take, show tl ("." : Str) = [46] by decide +kernel]
  obtain ⟨c, r, ez⟩ : ∃ c r, tl z = c :: r := by
    rcases tl_cases z with e | h
    · rw [hz] at e
      cases ps with
      | nil => exact absurd hl1 (by decide)
      | cons p ps => exact absurd (List.append_eq_nil_iff.mp e).1 (piece_ne (hps p List.mem_cons_self))
    · exact h
  refine rd_meet (fun σ' H' => H' = H ∧ σ' = [some (.str z), some (.str y), none, none, none, none] ∧ ((tl y).take 1 = [46] → (tl z).take 1 = [46])) ?_ ?_
  · walk_at "rd"
    rw [take1]
    refine rd_ite (fun h1 => ?_) (fun h1 => ?_)
    · have h1 := of_decide_eq_true h1
      walk_at "rd"
      refine rd_ixS (c := c) (szOk (show z.length ≤ 1000000 by omega)) (atI_nat (j := 0) (by show (tl z)[0]? = _; rw [ez]; rfl)) ?_
      walk_at "rd"
      have e2 : decide ((⟨#[c]⟩ : Str) = ".") = decide ((tl z).take 1 = [46]) := by
        rw [dec_tl, show tl ("." : Str) = [46] by decide +kernel, ez] <;> rfl
      rw [e2]
      refine rd_ite (fun h2 => ?_) (fun h2 => ?_)
      · walk_at "rd"
        refine q false H ⟨(fun h => nomatch h), fun h => ?_⟩ (Same.refl H)
        have := h.1 h1
        rw [decide_eq_true this] at h2
        cases h2
      · walk_at "rd"
        refine ⟨rfl, rfl, fun _ => ?_⟩
        cases e : decide ((tl z).take 1 = [46]) with
        | true => exact of_decide_eq_true e
        | false => rw [e] at h2; cases h2
    · walk_at "rd"
      exact ⟨rfl, rfl, fun h => absurd h (of_decide_eq_false h1)⟩
  rintro _ H0 ⟨rfl, rfl, hdot⟩
  walk_at "rd"
  intro a ha
  walk_at "rd"
  intro b hb
  walk_at "rd"
  refine rd_rep upd_same (by omega) (by omega) (szOk (by show 1 * _ ≤ _; omega)) fun e he => ?_
  have ae : a ≠ e := ne_of_none (by rw [upd_ne (fun e => by rw [← e, upd_same] at hb; cases hb)]; exact upd_same) he
  have hae := (((Same.refl _).new (o := .lst [.bl false]) hb).new (o := .lst (List.replicate ((y.length : Nat) : Int).toNat [V.bl false]).flatten) he) a _ upd_same
  have k3 := (((Same.refl H0).new (o := .lst [.bl true]) ha).new (o := .lst [.bl false]) hb).new (o := .lst (List.replicate ((y.length : Nat) : Int).toNat [V.bl false]).flatten) he
  have flatF : ∀ n : Nat, (List.replicate n [V.bl false]).flatten = (List.replicate n false).map V.bl := fun n => by
    induction n with
    | zero => rfl
    | succ n ih => rw [List.replicate_succ, List.flatten_cons, ih, List.replicate_succ] <;> rfl
  refine rd_cat hae upd_same (szOk (by rw [flatF, List.length_map, List.length_replicate, Int.toNat_natCast]; show 1 + y.length ≤ _; omega)) fun row hrow => ?_
  have k4 := k3.new (o := .lst ([V.bl true] ++ (List.replicate ((y.length : Nat) : Int).toNat [V.bl false]).flatten)) hrow
  have erow : [V.bl true] ++ (List.replicate ((y.length : Nat) : Int).toNat [V.bl false]).flatten = (true :: List.replicate (tl y).length false).map V.bl := by
    rw [flatF, Int.toNat_natCast, ly] <;> rfl
  rw [erow] at k4 ⊢
  walk_at "rd"
  refine rd_forL ?_
  walk_at "rd"
  refine ⟨z, ps, rfl, hz, ⟨hl, hps⟩, fun D H5 hD k5 hD5 => ?_⟩
  have k45 := k4.trans k5
  have row5 := k5 _ _ upd_same
  refine rd_itL (xs := ps.map fun p => V.str (mk p.1)) (SqL.of hD5) (fun t σ H' => Same H0 H' ∧ H' D = some (.lst (ps.map fun p => V.str (mk p.1))) ∧ (∃ (row : Addr) (bs : List Bool) (x1 x2 x3 : Option V), H' row = some (.lst (bs.map V.bl)) ∧ bs.length = (tl y).length + 1 ∧ (∀ a, a ≤ (tl y).length → (bs[a]? = some true ↔ Row (ps.map (·.2)) (tl y) t a)) ∧ σ = [some (.str z), some (.str y), some (.ref row), x1, x2, x3]))
    ⟨k45, hD5, row, true :: List.replicate (tl y).length false, _, _, _, row5, by rw [List.length_cons, List.length_replicate], ?_, rfl⟩ (fun _ _ _ _ h => SqL.of h.2.1) ?_ ?_
  · intro a ha'
    cases a with
    | zero => exact ⟨fun _ => rfl, fun _ => rfl⟩
    | succ a =>
      constructor
      · intro h
        rw [List.getElem?_cons_succ, List.getElem?_replicate] at h
        split at h <;> cases h
      · intro h; exact absurd (show a + 1 = 0 from h) (by omega)
  · rintro t x σ H6 hx ⟨k6, hD6, row, bs, x1, x2, x3, hrow6, lbs, hbs, rfl⟩
    rw [List.getElem?_map] at hx
    obtain ⟨p, hp, rfl⟩ := Option.map_eq_some_iff.mp hx
    have hpo := hps p (List.mem_of_getElem? hp)
    have htk : (ps.map (·.2))[t]? = some p.2 := by rw [List.getElem?_map, hp]; rfl
    have hany : anyAt (ps.map (·.2)) t = isAny p.2 := any_at htk
    have lpp := piece_le hpo
    walk_at "rd"
    intro u hu
    walk_at "rd"
    refine rd_rep upd_same (by omega) (by omega) (szOk (by show 1 * _ ≤ _; omega)) fun new hnew => ?_
    have k7 := ((Same.refl H6).new (o := .lst [.bl false]) hu).new (o := .lst (List.replicate ((y.length : Int) + 1).toNat [V.bl false]).flatten) hnew
    have new0 : H0 new = none := by
      cases e : H0 new with
      | none => rfl
      | some o => rw [((Same.refl H6).new (o := .lst [.bl false]) hu) _ _ (k6 _ _ e)] at hnew; cases hnew
    have nrow : row ≠ new := ne_of_none (((Same.refl H6).new (o := .lst [.bl false]) hu) _ _ hrow6) hnew
    have nD : D ≠ new := ne_of_none (((Same.refl H6).new (o := .lst [.bl false]) hu) _ _ hD6) hnew
    have enew : (List.replicate ((y.length : Int) + 1).toNat [V.bl false]).flatten = (List.replicate ((tl y).length + 1) false).map V.bl := by
      rw [flatF, show ((y.length : Int) + 1).toNat = (tl y).length + 1 by omega]
    rw [enew] at k7 ⊢
    have row7 := k7 _ _ hrow6
    have D7 := k7 _ _ hD6
    walk_at "rd"
    refine rd_itR (by omega) (by omega) (fun i σ H' => Same H0 H' ∧ H' D = some (.lst (ps.map fun p => V.str (mk p.1))) ∧ H' row = some (.lst (bs.map V.bl)) ∧ (∃ (cs : List Bool) (x3 : Option V), H' new = some (.lst (cs.map V.bl)) ∧ cs.length = (tl y).length + 1 ∧ (∀ a, a < i → (cs[a]? = some true ↔ Row (ps.map (·.2)) (tl y) (t + 1) a)) ∧ (∀ a, i ≤ a → cs[a]? ≠ some true) ∧ σ = [some (.str z), some (.str y), some (.ref row), some (.str (mk p.1)), some (.ref new), x3]))
      ⟨k6.trans k7, D7, row7, List.replicate ((tl y).length + 1) false, _, upd_same, List.length_replicate, (fun a h => by omega), (fun a _ h => by rw [List.getElem?_replicate] at h; split at h <;> cases h), rfl⟩ ?_ ?_
    · rintro i σ H8 hi ⟨k8, D8, row8, cs, x3, new8, lcs, hcs, hcs2, rfl⟩
      have hi' : i ≤ (tl y).length := by omega
      have put : ∀ (b : Bool) (H9 : Hp), Same H8 H9 → (b = true ↔ Row (ps.map (·.2)) (tl y) (t + 1) i) → Same H0 (upd H9 new (.lst ((cs.map V.bl).set i (.bl b)))) ∧ upd H9 new (.lst ((cs.map V.bl).set i (.bl b))) D = some (.lst (ps.map fun p => V.str (mk p.1))) ∧ upd H9 new (.lst ((cs.map V.bl).set i (.bl b))) row = some (.lst (bs.map V.bl)) ∧ (∃ (cs' : List Bool) (x3 : Option V), upd H9 new (.lst ((cs.map V.bl).set i (.bl b))) new = some (.lst (cs'.map V.bl)) ∧ cs'.length = (tl y).length + 1 ∧ (∀ a, a < i + 1 → (cs'[a]? = some true ↔ Row (ps.map (·.2)) (tl y) (t + 1) a)) ∧ (∀ a, i + 1 ≤ a → cs'[a]? ≠ some true) ∧ [some (V.str z), some (.str y), some (.ref row), some (.str (mk p.1)), some (.ref new), some (.int (i : Int))] = [some (.str z), some (.str y), some (.ref row), some (.str (mk p.1)), some (.ref new), x3]) := by
        intro b H9 k9 hb
        refine ⟨(k8.trans k9).put new0, by rw [upd_ne nD]; exact k9 _ _ D8, by rw [upd_ne nrow]; exact k9 _ _ row8, cs.set i b, _, by rw [upd_same, List.map_set], by rw [List.length_set]; exact lcs, fun a ha => ?_, fun a ha h => ?_, rfl⟩
        · rcases Nat.lt_or_ge a i with c | c
          · rw [List.getElem?_set_ne (by omega)]
            exact hcs a c
          · obtain rfl : a = i := by omega
            rw [List.getElem?_set_self (by omega)]
            exact ⟨fun h => hb.mp (Option.some.inj h), fun h => by rw [hb.mpr h]⟩
        · rw [List.getElem?_set_ne (by omega)] at h
          exact hcs2 a (by omega) h
      walk_at "rd"
      rw [piece_star hpo]
      cases hs : isAny p.2 with
      | true =>
        refine rd_yT ?_
        have e1 : (i : Int) + 1 = ((i + 1 : Nat) : Int) := by omega
        walk_at "rd"
        rw [e1]
        walk_at "rd"
        refine rd_slL (SqL.of row8) fun w hw => ?_
        rw [cutV_take]
        refine rd_inL (SqL.of upd_same) rfl ?_ ?_
        · rw [List.all_eq_true]
          intro v hv
          obtain ⟨b', _, rfl⟩ := List.mem_map.mp (List.mem_of_mem_take hv)
          rfl
        rw [← List.map_take, in_bls]
        have k9 := (Same.refl H8).new (o := .lst ((bs.take (i + 1)).map V.bl)) hw
        walk_at "rd"
        refine rd_setL (k9 _ _ new8) (ixN_nat (by rw [List.length_map]; omega)) ?_
        walk_at "rd"
        refine put _ _ k9 ?_
        show _ ↔ (if anyAt (ps.map (·.2)) t = true then ∃ b, b ≤ i ∧ Row (ps.map (·.2)) (tl y) t b else _)
        rw [hany, hs, if_pos rfl, List.any_eq_true]
        constructor
        · rintro ⟨v, hv, hv2⟩
          obtain ⟨j, hj⟩ := List.mem_iff_getElem?.mp hv
          have hv2 : v = true := hv2
          rw [hv2, List.getElem?_take] at hj
          split at hj
          · rename_i hlt
            exact ⟨j, by omega, (hbs j (by omega)).mp hj⟩
          · cases hj
        · rintro ⟨j, hj, hr⟩
          refine ⟨true, List.mem_iff_getElem?.mpr ⟨j, ?_⟩, rfl⟩
          rw [List.getElem?_take, if_pos (by omega)]
          exact (hbs j (by omega)).mpr hr
      | false =>
        walk_at "rd"
        have rowF : ∀ a, Row (ps.map (·.2)) (tl y) (t + 1) a ↔ ∃ b c, a = b + 1 ∧ Row (ps.map (·.2)) (tl y) t b ∧ (tl y)[b]? = some c ∧ fitsT p.2 c = true := fun a => by
          show (if anyAt (ps.map (·.2)) t = true then _ else ∃ b k c, a = b + 1 ∧ Row (ps.map (·.2)) (tl y) t b ∧ (ps.map (·.2))[t]? = some k ∧ (tl y)[b]? = some c ∧ fitsT k c = true) ↔ _
          rw [hany, hs, if_neg Bool.false_ne_true]
          constructor
          · rintro ⟨b, k, c, h1, h2, h3, h4, h5⟩
            rw [htk] at h3
            cases h3
            exact ⟨b, c, h1, h2, h4, h5⟩
          · rintro ⟨b, c, h1, h2, h4, h5⟩
            exact ⟨b, p.2, c, h1, h2, htk, h4, h5⟩
        refine rd_ite (fun h0 => ?_) (fun h0 => ?_)
        · obtain ⟨j, rfl⟩ : ∃ j, i = j + 1 := ⟨i - 1, by have := of_decide_eq_true h0; omega⟩
          have e1 : ((j + 1 : Nat) : Int) - 1 = (j : Int) := by omega
          have hjb : j < bs.length := by omega
          have hjs : j < (tl y).length := by omega
          walk_at "rd"
          rw [e1]
          refine rd_ixL (v := .bl bs[j]) (SqL.of row8) (atI_nat (by rw [List.getElem?_map, List.getElem?_eq_getElem hjb]; rfl)) ?_
          walk_at "rd"
          have iff1 : bs[j] = true ↔ Row (ps.map (·.2)) (tl y) t j := by
            rw [← hbs j (by omega), List.getElem?_eq_getElem hjb]
            exact ⟨fun h => by rw [h], fun h => Option.some.inj h⟩
          cases hb : bs[j] with
          | false =>
            rw [hb] at iff1
            refine rd_nF ?_
            walk_at "rd"
            refine rd_setL new8 (ixN_nat (by rw [List.length_map]; omega)) ?_
            walk_at "rd"
            refine put false H8 (Same.refl _) ⟨(fun h => nomatch h), fun h => ?_⟩
            obtain ⟨b, c, h1, h2, _⟩ := (rowF _).mp h
            obtain rfl : j = b := by omega
            exact (iff1.mpr h2)
          | true =>
            rw [hb] at iff1
            refine rd_yT ?_
            walk_at "rd"
            rw [e1]
            refine rd_ixS (c := (tl y)[j]) (szOk (show y.length ≤ 1000000 by omega)) (atI_nat (List.getElem?_eq_getElem hjs)) ?_
            walk_at "rd"
            refine ⟨mk p.1, p.2, (tl y)[j], rfl, rfl, by rw [tl_mk]; exact hpo, (fun e => by rw [e] at hs; cases hs), fun H9 k9 => ?_⟩
            walk_at "rd"
            refine rd_setL (k9 _ _ new8) (ixN_nat (by rw [List.length_map]; omega)) ?_
            walk_at "rd"
            refine put _ H9 k9 ?_
            rw [rowF]
            constructor
            · intro h
              exact ⟨j, (tl y)[j], rfl, iff1.mp rfl, List.getElem?_eq_getElem hjs, h⟩
            · rintro ⟨b, c, h1, h2, h3, h4⟩
              obtain rfl : j = b := by omega
              rw [List.getElem?_eq_getElem hjs] at h3
              cases h3
              exact h4
        · obtain rfl : i = 0 := by have := of_decide_eq_false h0; omega
          walk_at "rd"
          refine ⟨k8, D8, row8, cs, _, new8, lcs, fun a ha => ?_, fun a ha => hcs2 a (by omega), rfl⟩
          obtain rfl : a = 0 := by omega
          refine ⟨fun h => absurd h (hcs2 0 (Nat.le_refl _)), fun h => ?_⟩
          obtain ⟨b, c, h1, _⟩ := (rowF _).mp h
          omega
    · rintro σ H8 ⟨k8, D8, row8, cs, x3, new8, lcs, hcs, hcs2, rfl⟩
      walk_at "rd"
      exact ⟨k8, D8, new, cs, _, _, _, new8, lcs, fun a ha => hcs a (by omega), rfl⟩
  · rintro σ H6 ⟨k6, hD6, row, bs, x1, x2, x3, hrow6, lbs, hbs, rfl⟩
    have hn : (tl y).length < bs.length := by omega
    walk_at "rd"
    refine ⟨1, rfl, ?_⟩
    have ea : atI (bs.map V.bl) (-1) = some (.bl bs[(tl y).length]) := by
      show (ixN (bs.map V.bl).length (-1)).bind _ = _
      have : ixN (bs.map V.bl).length (-1) = some (tl y).length := by
        unfold ixN
        rw [if_neg (by decide), if_pos (by rw [List.length_map]; omega), List.length_map, lbs]
        congr 1
        omega
      rw [this]
      show (bs.map V.bl)[(tl y).length]? = _
      rw [List.getElem?_map, List.getElem?_eq_getElem hn] <;> rfl
    refine rd_ixL (SqL.of hrow6) ea ?_
    refine q _ H6 ?_ k6
    have h1 := hbs (tl y).length (Nat.le_refl _)
    rw [List.getElem?_eq_getElem hn, List.length_map] at h1
    constructor
    · intro h
      refine ⟨hdot, _, ets, ?_⟩
      unfold FitR
      rw [List.length_map]
      exact h1.mp (by rw [h])
    · rintro ⟨_, ts, e, h⟩
      rw [ets] at e
      cases e
      unfold FitR at h
      rw [List.length_map] at h
      exact Option.some.inj (h1.mpr h)

def pieceB : List Nat → Option Tk
  | [c] => if c = 91 then none else some (tkOf c)
  | 91 :: r => match cutAt 93 r with
    | some (b, []) => if b ≠ [] ∧ b ≠ [33] ∧ b.length ≤ 10 then (match itemsL (b.drop (if negOf (b ++ [93]) then 1 else 0)) with | some (i :: is) => some (.set (negOf (b ++ [93])) (i :: is)) | _ => none) else none
    | _ => none
  | _ => none
theorem pieceB_ok {l : List Nat} {k : Tk} (h : pieceB l = some k) : PieceOk l k := by
  unfold pieceB at h
  split at h
  · rename_i c
    split at h
    · cases h
    · rename_i hc
      cases h
      exact .inl ⟨c, rfl, hc, rfl⟩
  · rename_i r _
    split at h
    · rename_i b e
      obtain ⟨e1, e2⟩ := cutAt_some e
      split at h
      · rename_i hb
        split at h
        · rename_i i is ei
          cases h
          exact .inr ⟨b, i, is, by rw [e1], e2, hb.1, fun _ => hb.2.1, ei, rfl, hb.2.2⟩
        · cases h
      · cases h
    · cases h
  · cases h
def isPc : V → Bool
  | .str z => (pieceB (tl z)).isSome && decide (z.length ≤ 7) && !decide (47 ∈ tl z)
  | _ => false
def Φ_law_pattern (K : PySem.W.Frag) (vd vm : V) (H : Hp) (Q : VK) : Prop := ∃ (d : Addr) (mm m : Nat), vd = .ref d ∧ vm = .int mm ∧ 1 ≤ mm ∧ mm ≤ 5 ∧ Dk d m H ∧ m + 10 ≤ LIM ∧
  ∀ (z : Str) (ps : List (List Nat × Tk)) (H' : Hp), tl z = (ps.map (·.1)).flatten → Pcs ps → 1 ≤ ps.length → patB (.str z) = true → Dk d (m + 10) H' → Kp d H H' → Q (.str z) H'
theorem ok_law_pattern (T : Txt P K mg) {f : Addr} {fd : FuncData} (F : Fun K "_law_pattern" "_law_pattern" s_law_pattern f fd) : Keeps P w K mg base CX0 2 f fd ["deck", "most"] (sp2 (Φ_law_pattern K)) := by
  have c_law_draw := cal (P := P) (w := w) (base := base) T.d_law_draw fun F => ok_law_draw T F
  refine keeps0_of F sc_law_pattern (fun vs H Q E h => ?_) (fun cdv A outer s H vs Q E hr h => ?_)
  · obtain ⟨_, _, rfl, _⟩ := h
    rfl
  obtain ⟨v_deck, v_most, rfl, h⟩ := h
  have hu := hr.hu
  refine ⟨_, (pss_cons (ps_set (i := 2) sc_law_pattern.nd rfl (by first | exact Or.inl rfl | exact Or.inr rfl) pe_str)
      (pss_cons (ps_for PassesOwn.never rfl (pi_range1 (by rfl) T.b_range (pa_cons (pe_op (oAdd (K := K)) pe_int (pe_cal c_law_draw (hr.mono (by decide)) (by rfl) pass0 (pa_cons (pv 0) (pa_cons (pv 1) pa_nil)))) pa_nil)) (pg_name (i := 3) sc_law_pattern.nd rfl (by first | exact Or.inl rfl | exact Or.inr rfl)) (pss_one (ps_set (i := 2) sc_law_pattern.nd rfl (by first | exact Or.inl rfl | exact Or.inr rfl) (pe_op (oAdd (K := K)) (pv 2) (pe_ix (ixX (K := K)) (pe_lst (pa_cons pe_str (pa_cons pe_str (pa_cons pe_str (pa_cons pe_str (pa_cons pe_str (pa_cons pe_str (pa_cons pe_str (pa_cons pe_str (pa_cons pe_str (pa_cons pe_str (pa_cons pe_str (pa_cons pe_str (pa_cons pe_str (pa_cons pe_str (pa_cons pe_str (pa_cons pe_str pa_nil))))))))))))))))) (pe_cal c_law_draw (hr.mono (by decide)) (by rfl) pass0 (pa_cons (pv 0) (pa_cons pe_int pa_nil))) (fun _ _ => rfl))))))
      (pss_one (ps_ret (pv 2))))), ?_⟩
  rw [show start ["deck", "most", "found", "turn"] [v_deck, v_most] = [some v_deck, some v_most, none, none] from rfl]
  try dsimp only [cxOf, Cx.nox, Cx.wish]
  obtain ⟨d, mm, m, rfl, rfl, hmm1, hmm, hd, hm, q⟩ := h
  walk_at "rd"
  refine use_draw hd (by omega) (by omega) (by omega) fun n H1 n0 n1 d1 k1 => ?_
  walk_at "rd"
  refine rd_itR (by omega) (by omega) (fun i σ H' => Kp d H H' ∧ Dk d (m + 1 + i) H' ∧ ∃ (z : Str) (ps : List (List Nat × Tk)) (v : Option V), tl z = (ps.map (·.1)).flatten ∧ ps.length = i ∧ (∀ p ∈ ps, PieceOk p.1 p.2) ∧ z.length ≤ 7 * i ∧ 47 ∉ tl z ∧ (1 ≤ i → 1 ≤ z.length) ∧ σ = [some (.ref d), some (.int mm), some (.str z), v])
    ⟨k1, d1, "", [], none, tl_nil, rfl, (fun _ h => nomatch h), by decide +kernel, by rw [tl_nil]; exact (fun h => nomatch h), (fun h => by omega), rfl⟩ ?_ ?_
  · rintro i σ H2 hi ⟨k2, d2, z, ps, v, hz, hl, hps, hz7, h47, hz1, rfl⟩
    walk_at "rd"
    intro l hl0
    walk_at "rd"
    refine use_draw (d2.new hl0) (by decide) (by decide) (by omega) fun a H3 a0 a1 d3 k3 => ?_
    refine pick (SqL.of (k3.at (d2.ne hl0))) a0 (by show a < 16; omega) fun x hx => ?_
    have hpc : isPc x = true := List.all_eq_true.mp (show List.all [V.str "*", .str "?", .str "a", .str "b", .str ".", .str "x", .str "-", .str "]", .str "[ab]", .str "[!a]", .str "[a-f]", .str "[!0-9x]", .str "[.]", .str "[_b-d]", .str "~", .str "0"] isPc = true by decide +kernel) x hx
    obtain ⟨s, rfl⟩ : ∃ s, x = .str s := by cases x <;> first | exact ⟨_, rfl⟩ | (cases hpc)
    have hpc' : ((pieceB (tl s)).isSome && decide (s.length ≤ 7) && !decide (47 ∈ tl s)) = true := hpc
    simp only [Bool.and_eq_true, decide_eq_true_eq, Bool.not_eq_true', decide_eq_false_iff_not] at hpc'
    obtain ⟨⟨h1, h2⟩, h3⟩ := hpc'
    obtain ⟨k, hk⟩ := Option.isSome_iff_exists.mp h1
    have hok := pieceB_ok hk
    have hs1 : 1 ≤ s.length := by
      rw [← len_tl]
      have := piece_ne hok
      cases e : tl s with
      | nil => exact absurd e this
      | cons => rw [List.length_cons]; omega
    walk_at "rd"
    refine ⟨(k2.new hl0).trans k3, d3, z ++ s, ps ++ [(tl s, k)], _, ?_, by rw [List.length_append, hl]; rfl, fun p hp => ?_, by rw [len_app]; omega, ?_, fun _ => by rw [len_app]; omega, rfl⟩
    · rw [tl_app, hz, List.map_append, List.flatten_append]
      simp
    · rcases List.mem_append.mp hp with h | h
      · exact hps p h
      · rw [List.mem_singleton.mp h]; exact hok
    · rw [tl_app]
      intro h
      rcases List.mem_append.mp h with h | h
      · exact h47 h
      · exact h3 h
  · rintro σ H2 ⟨k2, d2, z, ps, v, hz, hl, hps, hz7, h47, hz1, rfl⟩
    walk_at "rd"
    refine q z ps H2 hz ⟨by omega, hps⟩ (by omega) ?_ (d2.mono (by omega)) k2
    rw [patB_str, hz, pieces_toks hps, ← hz, decide_eq_true (show 1 ≤ z.length from hz1 (by omega)), decide_eq_true (show z.length ≤ 40 by omega), decide_eq_false h47]
    rfl

/-! ## Names in rooms -/
noncomputable def fitD (z y : Str) : Bool := @decide (Fit z y) (Classical.propDecidable _)
theorem fitD_iff {z y : Str} : fitD z y = true ↔ Fit z y := @decide_eq_true_iff _ (Classical.propDecidable _)
theorem fit_of {z y : Str} {b : Bool} (h : b = true ↔ Fit z y) : b = fitD z y := Bool.eq_iff_iff.mpr (h.trans fitD_iff.symm)
def roomKey (vh : V) : Nat := match vh with
  | .int i => i.toNat
  | _ => 0
def patT (v : V) : Str := match v with
  | .str z => z
  | _ => ""
def Φ_matches (K : PySem.W.Frag) (mg : Str → Option Value) (vs vh vp : V) (H : Hp) (Q : VK) (E : XK) : Prop :=
  (∃ t, TyX K H vs t ∧ PySem.W.kitOne K t (.type "tuple") = some false ∧ ∀ C, mg "InvalidStore" = some (.ref C) → E (.ref C) none H) ∨
  ∃ s, StAt H vs s ∧ Wf s ∧ KV vh ∧ AnyP K H vp ∧ (roomV s vh = false → ∀ C H', mg "InvalidRoom" = some (.ref C) → Same H H' → E (.ref C) none H') ∧
    (roomV s vh = true → patB vp = false → ∀ C H', mg "InvalidPattern" = some (.ref C) → Same H H' → E (.ref C) none H') ∧
    (roomV s vh = true → patB vp = true → ∀ D H', H D = none → Same H H' → H' D = some (.lst (((entsAt s (roomKey vh)).filter fun e => fitD (patT vp) e.1).map fun e => V.str e.1)) → Q (.ref D) H')
theorem roomV_key {s : Sto} {vh : V} (h : roomV s vh = true) : ∃ k es, vh = .int (k : Nat) ∧ roomKey vh = k ∧ s[k]? = some (some (.room es)) := by
  match vh, h with
  | .int i, h =>
    rw [roomV_int, Bool.and_eq_true, Bool.and_eq_true, decide_eq_true_eq, decide_eq_true_eq] at h
    obtain ⟨⟨h0, h1⟩, h2⟩ := h
    rw [List.getD_eq_getElem?_getD] at h2
    cases e : s[i.toNat]? with
    | none => rw [e] at h2; cases h2
    | some n =>
      rw [e] at h2
      match n, h2 with
      | some (.room es), _ => exact ⟨i.toNat, es, by rw [Int.toNat_of_nonneg h0], rfl, e⟩
theorem ok_matches (T : Txt P K mg) {f : Addr} {fd : FuncData} (F : Fun K "matches" "matches" s_matches f fd) : Keeps P w K mg base (L2.CX P w) 6 f fd ["store", "here", "pattern"] (sp3x (Φ_matches K mg)) := by
  have c_need_store := cal (P := P) (w := w) (base := base) T.d_need_store fun F => ok_need_store T F
  have c_need_room := cal (P := P) (w := w) (base := base) T.d_need_room fun F => ok_need_room T F
  have c_need_pattern := cal (P := P) (w := w) (base := base) T.d_need_pattern fun F => ok_need_pattern T F
  have c_entry_names := cal (P := P) (w := w) (base := base) T.d_entry_names fun F => ok_entry_names T F
  have c_is_fitting := cal (P := P) (w := w) (base := base) T.d_is_fitting fun F => ok_is_fitting T F
  refine keeps_of F sc_matches (fun vs H Q E h => ?_) (fun cdv A outer s H vs Q E hr h => ?_)
  · obtain ⟨_, _, _, rfl, _⟩ := h
    rfl
  obtain ⟨v_store, v_here, v_pattern, rfl, h⟩ := h
  have hu := hr.hu
  refine ⟨_, (pss_cons (ps_expr (pe_calS c_need_store (hr.mono (by decide)) (by rfl) (fun σ => passAt (takes_of rfl rfl rfl rfl) σ) (pa_cons (pv 0) pa_nil)))
      (pss_cons (ps_expr (pe_calS c_need_room (hr.mono (by decide)) (by rfl) (fun σ => passAt (takes_of rfl rfl rfl rfl) σ) (pa_cons (pv 0) (pa_cons (pv 1) pa_nil))))
      (pss_cons (ps_expr (pe_calS c_need_pattern (hr.mono (by decide)) (by rfl) (fun σ => passAt (takes_of rfl rfl rfl rfl) σ) (pa_cons (pv 2) pa_nil)))
      (pss_one (ps_ret (pe_lc (own := [("name", 3)]) rfl sc_matches.nd (pi_any (K := K) (pe_cal c_entry_names (hr.mono (by decide)) (by rfl) pass0 (pa_cons (pv 0) (pa_cons (pv 1) pa_nil)))) (blkOk_by (own := [("name", 3)]) (N := ["store", "here", "pattern", "name"]) (sc := defScope s_matches) (by decide +kernel)) (fun _ _ _ _ _ => pg_name (i := 3) sc_matches.nd rfl (by first | exact Or.inl rfl | exact Or.inr rfl)) (fun _ _ _ _ _ => pts_one (pt_val (pe_cal c_is_fitting (hr.mono (by decide)) (by rfl) pass0 (pa_cons (pv 2) (pa_cons (pv 3) pa_nil))))) (fun _ _ _ _ _ => (pv 3)))))))), ?_⟩
  rw [show start ["store", "here", "pattern", "name"] [v_store, v_here, v_pattern] = [some v_store, some v_here, some v_pattern, none] from rfl]
  try dsimp only [cxOf, Cx.nox, Cx.wish]
  rcases h with ⟨t, ty, ht, q⟩ | ⟨s, hs, wf, kv, hA, q1, q2, q3⟩
  · walk_at "rd"
    exact .inr ⟨t, ty, ht, q⟩
  · walk_at "rd"
    refine .inl ⟨s, hs, wf, fun H1 k1 => ?_⟩
    have hs1 := hs.up (Ty.of k1)
    walk_at "rd"
    refine ⟨s, hs1, kv, fun hr => ?_, fun hr C hC => q1 hr C H1 hC k1⟩
    walk_at "rd"
    refine ⟨hA.mono k1, fun hp H2 k2 => ?_, fun hp C H2 hC k2 => q2 hr hp C H2 hC (k1.trans k2)⟩
    have k12 := k1.trans k2
    obtain ⟨k, es, rfl, hk, hes⟩ := roomV_key hr
    have hl := wf.few k
    rw [entsAt_room hes] at hl
    obtain ⟨z, rfl⟩ : ∃ z, v_pattern = .str z := by
      cases v_pattern <;> first | exact ⟨_, rfl⟩ | (cases hp)
    have hp' := hp
    rw [patB_str] at hp'
    simp only [Bool.and_eq_true, decide_eq_true_eq] at hp'
    obtain ⟨⟨h1, h2⟩, _, h4⟩ := hp'
    obtain ⟨ts, ets⟩ := Option.isSome_iff_exists.mp h4
    obtain ⟨l1, l2⟩ := toks_len _ (Nat.le_refl _) ets
    rw [len_tl] at l1 l2
    have q4 := q3 hr hp
    rw [hk, entsAt_room hes] at q4
    have okN := wf.nodes _ (List.mem_of_getElem? hes)
    walk_at "rd"
    refine rd_lcL ?_
    walk_at "rd"
    refine ⟨s, k, es, hs.up (Ty.of k12), rfl, hes, hl, fun lA H3 hlA k3 hL => ?_⟩
    refine rd_clL (xs := es.map fun e => V.str e.1) (SqL.of hL) (fun D i H' => Same H3 H' ∧ H' D = some (.lst (((es.take i).filter fun e => fitD z e.1).map fun e => V.str e.1))) (fun D hD => ⟨(Same.refl H3).new (o := .lst []) hD, upd_same⟩) (fun D i H' _ _ h => SqL.of (h.1 _ _ hL)) (fun D i x H' hD hx hP => ?_) (fun D H' hD hP => ?_)
    · obtain ⟨k4, hD4⟩ := hP
      rw [List.getElem?_map] at hx
      obtain ⟨e, he, rfl⟩ := Option.map_eq_some_iff.mp hx
      have el := entB_len (okN.1 e (List.mem_of_getElem? he)).1
      have grow : es.take (i + 1) = es.take i ++ [e] := by rw [List.take_add_one, he]; rfl
      walk_at "rd"
      refine ⟨z, e.1, ts, rfl, rfl, by omega, h1, by omega, ets, by omega, (fun k hk n is e => by have := l2 k hk n is e; omega), fun b H5 hb k5 => ?_⟩
      have hb : b = fitD z e.1 := fit_of (hb.trans (by
        unfold Fit
        rw [ets]
        exact ⟨fun h => ⟨h.1, ts, rfl, h.2⟩, fun ⟨a, ts', e, h⟩ => ⟨a, by cases e; exact h⟩⟩))
      subst hb
      walk_at "rd"
      refine rd_ite (fun hf => ?_) (fun hf => ?_)
      · walk_at "rd"
        have lf := List.length_filter_le (fun e : Str × Nat => fitD z e.1) (es.take i)
        rw [List.length_take] at lf
        refine ⟨_, k5 _ _ hD4, szLt (by rw [List.length_map]; omega), (k4.trans k5).put hD, ?_⟩
        rw [upd_same, grow, List.filter_append, List.map_append]
        simp only [List.filter_cons, hf, List.filter_nil, if_true, List.map_cons, List.map_nil]
      · refine ⟨k4.trans k5, ?_⟩
        rw [k5 _ _ hD4, grow, List.filter_append, List.map_append]
        simp only [List.filter_cons, hf, List.filter_nil, Bool.false_eq_true, if_false, List.map_nil, List.append_nil]
    · obtain ⟨k4, hD4⟩ := hP
      rw [List.length_map, List.take_length] at hD4
      exact q4 D H' (Sub.of (k12.trans k3) D hD) ((k12.trans k3).trans k4) hD4
def Φ_law_rooms (K : PySem.W.Frag) (v : V) (H : Hp) (Q : VK) : Prop := ∃ s, StAt H v s ∧ s.length ≤ 1000 ∧ ∀ D H', H D = none → Same H H' → H' D = some (.lst (((List.range s.length).filter fun k => isRoom (s.getD k none)).map fun n : Nat => V.int (n : Int))) → Q (.ref D) H'
theorem ok_law_rooms (T : Txt P K mg) {f : Addr} {fd : FuncData} (F : Fun K "_law_rooms" "_law_rooms" s_law_rooms f fd) : Keeps P w K mg base CX0 1 f fd ["store"] (sp1 (Φ_law_rooms K)) := by
  refine keeps0_of F sc_law_rooms (fun vs H Q E h => ?_) (fun cdv A outer s H vs Q E hr h => ?_)
  · obtain ⟨_, rfl, _⟩ := h
    rfl
  obtain ⟨v_store, rfl, h⟩ := h
  have hu := hr.hu
  refine ⟨_, (pss_one (ps_ret (pe_lc (own := [("number", 1)]) rfl sc_law_rooms.nd (pi_range1 (by rfl) T.b_range (pa_cons (pe_callB (call_lenX (K := K)) (by rfl) T.b_len (by decide +kernel) (pa_cons (pv 0) pa_nil)) pa_nil)) (blkOk_by (own := [("number", 1)]) (N := ["store", "number"]) (sc := defScope s_law_rooms) (by decide +kernel)) (fun _ _ _ _ _ => pg_name (i := 1) sc_law_rooms.nd rfl (by first | exact Or.inl rfl | exact Or.inr rfl)) (fun _ _ _ _ _ => pts_one (PW.pt (pw_and (pt_cmpR oIsNot (pe_ix (ixX (K := K)) (pv 0) (pv 1) (fun _ _ => rfl)) pe_non (nomark _)) (pw_and1 (pt_cmpR (oEq (K := K) hr.u65) (pe_ix (ixX (K := K)) (pe_ix (ixX (K := K)) (pv 0) (pv 1) (fun _ _ => rfl)) pe_int (fun _ _ => rfl)) pe_str (nomark _)))))) (fun _ _ _ _ _ => (pv 1))))), ?_⟩
  rw [show start ["store", "number"] [v_store] = [some v_store, none] from rfl]
  try dsimp only [cxOf, Cx.nox, Cx.wish]
  obtain ⟨s, ⟨a, xs, rfl, ha, ps⟩, hl, q⟩ := h
  have lx := Paired.length ps
  walk_at "rd"
  refine rd_lenT ha.sq ?_
  walk_at "rd"
  refine rd_clR (by omega) (by omega) (fun D i H' => Same H H' ∧ H' D = some (.lst (((List.range i).filter fun k => isRoom (s.getD k none)).map fun n : Nat => V.int (n : Int)))) (fun D hD => ⟨(Same.refl H).new (o := .lst []) hD, upd_same⟩) (fun D i H' hD hi hP => ?_) (fun D H' hD hP => ?_)
  · obtain ⟨k1, hL⟩ := hP
    have il : i < s.length := by omega
    have hs : s[i]? = some s[i] := List.getElem?_eq_getElem il
    obtain ⟨v, hv, at1⟩ := pd_getR ps hs
    have e0 : s.getD i none = s[i] := by rw [List.getD_eq_getElem?_getD, hs]; rfl
    have lf := List.length_filter_le (fun k => isRoom (s.getD k none)) (List.range i)
    rw [List.length_range] at lf
    have no : isRoom s[i] = false → Same H H' ∧ H' D = some (.lst (((List.range (i + 1)).filter fun k => isRoom (s.getD k none)).map fun n : Nat => V.int (n : Int))) := fun h => by
      refine ⟨k1, ?_⟩
      rw [hL, List.range_succ, List.filter_append, List.map_append]
      simp only [List.filter_cons, e0, h, List.filter_nil, Bool.false_eq_true, if_false, List.map_nil, List.append_nil]
    walk_at "rd"
    refine rd_ixT (ha.up (Ty.of k1)).sq (atI_nat hv) ?_
    walk_at "rd"
    rw [at1.non]
    cases e : s[i] with
    | none =>
      rw [show (none : Option Nd).isNone = true from rfl]
      walk_at "rd"
      exact no (by rw [e]; rfl)
    | some n =>
      rw [show (some n : Option Nd).isNone = false from rfl]
      rw [e] at at1
      obtain ⟨a1, y1, rfl, hh1⟩ := at1.head
      walk_at "rd"
      refine rd_ixT (ha.up (Ty.of k1)).sq (atI_nat hv) ?_
      walk_at "rd"
      refine rd_ixT (hh1.up (Ty.of k1)).sq rfl ?_
      walk_at "rd"
      rw [wordN_room]
      refine rd_ite (fun hr => ?_) (fun hr => ?_)
      · walk_at "rd"
        refine ⟨_, hL, szLt (by rw [List.length_map]; omega), k1.put hD, ?_⟩
        rw [upd_same, List.range_succ, List.filter_append, List.map_append]
        simp only [List.filter_cons, e0, e, hr, List.filter_nil, if_true, List.map_cons, List.map_nil]
      · exact no (by rw [e]; exact hr)
  · obtain ⟨k1, hL⟩ := hP
    rw [show ((xs.length : Nat) : Int).toNat = s.length by rw [lx, Int.toNat_natCast]] at hL
    exact q D H' hD k1 hL

def wordM (s : Sto) (vh vp : V) : Str := if roomV s vh = false then "here" else if patB vp = false then "pattern" else "none"
def Φ_law_word (K : PySem.W.Frag) (vs vh vp : V) (H : Hp) (Q : VK) : Prop :=
  (∃ t, TyX K H vs t ∧ PySem.W.kitOne K t (.type "tuple") = some false ∧ Q (.str "store") H) ∨
  ∃ s, StAt H vs s ∧ Wf s ∧ KV vh ∧ AnyP K H vp ∧ ∀ H', Same H H' → Q (.str (wordM s vh vp)) H'
theorem ok_law_word (T : Txt P K mg) {f : Addr} {fd : FuncData} (F : Fun K "_law_word" "_law_word" s_law_word f fd) : Keeps P w K mg base CX0 7 f fd ["store", "here", "pattern"] (sp3 (Φ_law_word K)) := by
  obtain ⟨C_InvalidStore, e_InvalidStore⟩ := T.e_InvalidStore
  obtain ⟨C_InvalidRoom, e_InvalidRoom⟩ := T.e_InvalidRoom
  obtain ⟨C_InvalidPattern, e_InvalidPattern⟩ := T.e_InvalidPattern
  have c_matches := cal (P := P) (w := w) (base := base) T.d_matches fun F => ok_matches T F
  refine keeps0_of F sc_law_word (fun vs H Q E h => ?_) (fun cdv A outer s H vs Q E hr h => ?_)
  · obtain ⟨_, _, _, rfl, _⟩ := h
    rfl
  obtain ⟨v_store, v_here, v_pattern, rfl, h⟩ := h
  have hu := hr.hu
  refine ⟨_, (pss_cons (ps_tryM (K := K) rfl rfl takes_none5 rfl (fun W1 pn1 xe1 tk1 po1 => (pss_one (ps_expr (pe_calS c_matches (hr.mono (by decide)) (by rfl) (fun σ => passAt tk1 σ) (pa_cons (pv 0) (pa_cons (pv 1) (pa_cons (pv 2) pa_nil))))))) (.cons (names_of e_InvalidStore (by rfl)) (fun _ _ _ _ _ _ _ => (pss_one (ps_ret pe_str))) (.cons (names_of e_InvalidRoom (by rfl)) (fun _ _ _ _ _ _ _ => (pss_one (ps_ret pe_str))) (.cons (names_of e_InvalidPattern (by rfl)) (fun _ _ _ _ _ _ _ => (pss_one (ps_ret pe_str))) .nil))))
      (pss_one (ps_ret pe_str))), ?_⟩
  rw [show start ["store", "here", "pattern"] [v_store, v_here, v_pattern] = [some v_store, some v_here, some v_pattern] from rfl]
  try dsimp only [cxOf, Cx.nox, Cx.wish]
  rcases h with ⟨t, ty, ht, q⟩ | ⟨s, hs, wf, kv, hA, q⟩
  · walk_at "rd"
    refine .inl ⟨t, ty, ht, fun C hC => ?_⟩
    cases e_InvalidStore.one hC
    refine rd_hitM (e_InvalidStore.m (T.m_InvalidStore_InvalidStore _ _ e_InvalidStore.g e_InvalidStore.g)) fun a ha => ?_
    walk_at "rd"
    exact q
  · walk_at "rd"
    refine .inr ⟨s, hs, wf, kv, hA, fun hr C H1 hC k1 => ?_, fun hr hp C H1 hC k1 => ?_, fun hr hp D H1 hD k1 hL => ?_⟩
    · cases e_InvalidRoom.one hC
      refine rd_missM (e_InvalidStore.m (T.m_InvalidRoom_InvalidStore _ _ e_InvalidRoom.g e_InvalidStore.g)) ?_
      refine rd_hitM (e_InvalidRoom.m (T.m_InvalidRoom_InvalidRoom _ _ e_InvalidRoom.g e_InvalidRoom.g)) fun a ha => ?_
      walk_at "rd"
      have := q H1 k1
      unfold wordM at this
      rw [if_pos hr] at this
      exact this
    · cases e_InvalidPattern.one hC
      refine rd_missM (e_InvalidStore.m (T.m_InvalidPattern_InvalidStore _ _ e_InvalidPattern.g e_InvalidStore.g)) ?_
      refine rd_missM (e_InvalidRoom.m (T.m_InvalidPattern_InvalidRoom _ _ e_InvalidPattern.g e_InvalidRoom.g)) ?_
      refine rd_hitM (e_InvalidPattern.m (T.m_InvalidPattern_InvalidPattern _ _ e_InvalidPattern.g e_InvalidPattern.g)) fun a ha => ?_
      walk_at "rd"
      have := q H1 k1
      unfold wordM at this
      rw [if_neg (by rw [hr]; exact Bool.noConfusion), if_pos hp] at this
      exact this
    · walk_at "rd"
      have := q H1 k1
      unfold wordM at this
      rw [if_neg (by rw [hr]; exact Bool.noConfusion), if_neg (by rw [hp]; exact Bool.noConfusion)] at this
      exact this
def LITS : List (Str × List Str) := [("*", ["*"]), ("?", ["?"]), ("*.*", ["*", ".", "*"]), (".*", [".", "*"]), ("[a-f]*", ["[a-f]", "*"]), ("*[!a]", ["*", "[!a]"]), ("x.y", ["x", ".", "y"]), ("a*", ["a", "*"])]
def litOk (q : Str × List Str) : Bool := (decide (tl q.1 = (q.2.map tl).flatten) && q.2.all (fun s => (pieceB (tl s)).isSome)) && (decide (1 ≤ q.2.length) && decide (q.2.length ≤ 8)) && (!decide (47 ∈ tl q.1) && (decide (1 ≤ q.1.length) && decide (q.1.length ≤ 40)))
theorem lits_ok : LITS.all litOk = true := by decide +kernel
/-- a pattern that the law takes -/
theorem lit_pcs {q : Str × List Str} (h : litOk q = true) : ∃ ps : List (List Nat × Tk), tl q.1 = (ps.map (·.1)).flatten ∧ Pcs ps ∧ 1 ≤ ps.length ∧ patB (.str q.1) = true := by
  unfold litOk at h
  simp only [Bool.and_eq_true, decide_eq_true_eq, Bool.not_eq_true', decide_eq_false_iff_not] at h
  obtain ⟨⟨⟨h1, h2⟩, h3, h4⟩, h5, h6, h7⟩ := h
  have key : ∃ ps : List (List Nat × Tk), ps.map (·.1) = q.2.map tl ∧ ∀ p ∈ ps, PieceOk p.1 p.2 := by
    revert h2
    generalize q.2 = l
    intro h2
    induction l with
    | nil => exact ⟨[], rfl, fun _ h => nomatch h⟩
    | cons s l ih =>
      rw [List.all_cons, Bool.and_eq_true] at h2
      obtain ⟨ps, e, hp⟩ := ih h2.2
      obtain ⟨k, hk⟩ := Option.isSome_iff_exists.mp h2.1
      refine ⟨(tl s, k) :: ps, by rw [List.map_cons, e]; rfl, fun p hp' => ?_⟩
      rcases List.mem_cons.mp hp' with rfl | hp'
      · exact pieceB_ok hk
      · exact hp p hp'
  obtain ⟨ps, e, hp⟩ := key
  have el : ps.length = q.2.length := by have := congrArg List.length e; rwa [List.length_map, List.length_map] at this
  refine ⟨ps, by rw [e]; exact h1, ⟨by omega, hp⟩, by omega, ?_⟩
  have ez : tl q.1 = (ps.map (·.1)).flatten := by rw [e]; exact h1
  rw [patB_str, ez, pieces_toks hp, ← ez, decide_eq_true h6, decide_eq_true h7, decide_eq_false h5]
  rfl
theorem names_shaped {es : List (Str × Nat)} (h : ∀ e ∈ es, e.1.length ≤ 12 ∧ ∀ c ∈ tl e.1, c < 0x110000) : SeqAt.shaped (.list (es.map fun e => PyData.str e.1)) = true := by
  refine (Bd.lst (k := 0) (w := 12) fun d hd => ?_).shaped (by omega)
  obtain ⟨e, he, rfl⟩ := List.mem_map.mp hd
  exact (Bd.str (h e he).2).mono (Nat.le_refl _) (h e he).1
theorem dp_names {K : PySem.W.Frag} {H : Hp} : ∀ es : List (Str × Nat), DpAll K H (es.map fun e => V.str e.1) (es.map fun e => PyData.str e.1)
  | [] => .nil
  | e :: es => .cons (.str _) (dp_names es)
theorem names_self (es : List (Str × Nat)) : PyData.eqv (.list (es.map fun e => PyData.str e.1)) (.list (es.map fun e => PyData.str e.1)) = true := by
  have nb : noB (.list (es.map fun e => PyData.str e.1)) = true := by
    show noBs _ = true
    induction es with
    | nil => rfl
    | cons e es ih => exact ih
  exact (eqv_iff _ _ nb nb).mpr rfl
theorem signs_lt : ∀ c ∈ tl SIGNS, c < 0x110000 := by decide +kernel
theorem entB_lt {z : Str} (h : entB z = true) : ∀ c ∈ tl z, c < 0x110000 := fun c hc => by
  unfold entB at h
  rw [Bool.and_eq_true] at h
  exact signs_lt c (of_decide_eq_true (List.all_eq_true.mp h.2 c hc))
def Φ_law_right (K : PySem.W.Frag) (vd : V) (H : Hp) (Q : VK) : Prop := ∃ (d : Addr), vd = .ref d ∧ Dk d 0 H ∧ ∀ H', Kp d H H' → Q (.bl true) H'
theorem ok_law_right (T : Txt P K mg) {f : Addr} {fd : FuncData} (F : Fun K "_law_right" "_law_right" s_law_right f fd) : Keeps P w K mg base CX0 8 f fd ["deck"] (sp1 (Φ_law_right K)) := by
  have c_law_store := cal (P := P) (w := w) (base := base) T.d_law_store fun F => ok_law_store T F
  have c_law_one_of := cal (P := P) (w := w) (base := base) T.d_law_one_of fun F => ok_law_one_of T F
  have c_matches := cal (P := P) (w := w) (base := base) T.d_matches fun F => ok_matches T F
  have c_law_draw := cal (P := P) (w := w) (base := base) T.d_law_draw fun F => ok_law_draw T F
  have c_law_word := cal (P := P) (w := w) (base := base) T.d_law_word fun F => ok_law_word T F
  have c_law_rooms := cal (P := P) (w := w) (base := base) T.d_law_rooms fun F => ok_law_rooms T F
  have c_law_pattern := cal (P := P) (w := w) (base := base) T.d_law_pattern fun F => ok_law_pattern T F
  have c_law_fits := cal (P := P) (w := w) (base := base) T.d_law_fits fun F => ok_law_fits T F
  refine keeps0_of F sc_law_right (fun vs H Q E h => ?_) (fun cdv A outer s H vs Q E hr h => ?_)
  · obtain ⟨_, rfl, _⟩ := h
    rfl
  obtain ⟨v_deck, rfl, h⟩ := h
  have hu := hr.hu
  refine ⟨_, (pss_cons (ps_set (i := 1) sc_law_right.nd rfl (by first | exact Or.inl rfl | exact Or.inr rfl) (pe_cal c_law_store (hr.mono (by decide)) (by rfl) pass0 (pa_cons (pv 0) (pa_cons pe_int pa_nil))))
      (pss_cons (ps_for PassesOwn.never rfl (pi_range1 (by rfl) T.b_range (pa_cons pe_int pa_nil)) (pg_name (i := 2) sc_law_right.nd rfl (by first | exact Or.inl rfl | exact Or.inr rfl)) (pss_cons (ps_set (i := 3) sc_law_right.nd rfl (by first | exact Or.inl rfl | exact Or.inr rfl) (pe_cal c_law_one_of (hr.mono (by decide)) (by rfl) pass0 (pa_cons (pv 0) (pa_cons (pe_cal c_law_rooms (hr.mono (by decide)) (by rfl) pass0 (pa_cons (pv 1) pa_nil)) pa_nil))))
      (pss_cons (ps_set (i := 4) sc_law_right.nd rfl (by first | exact Or.inl rfl | exact Or.inr rfl) (pe_ifExp (pt_cmpR (oEq (K := K) hr.u65) (pe_cal c_law_draw (hr.mono (by decide)) (by rfl) pass0 (pa_cons (pv 0) (pa_cons pe_int pa_nil))) pe_int (nomark _)) (pe_cal c_law_pattern (hr.mono (by decide)) (by rfl) pass0 (pa_cons (pv 0) (pa_cons pe_int pa_nil))) (pe_ix (ixX (K := K)) (pe_lst (pa_cons pe_str (pa_cons pe_str (pa_cons pe_str (pa_cons pe_str (pa_cons pe_str (pa_cons pe_str (pa_cons pe_str (pa_cons pe_str pa_nil))))))))) (pe_cal c_law_draw (hr.mono (by decide)) (by rfl) pass0 (pa_cons (pv 0) (pa_cons pe_int pa_nil))) (fun _ _ => rfl))))
      (pss_cons (ps_setLc (i := 5) (own := [("name", 10), ("number", 11)]) rfl sc_law_right.nd rfl rfl (sw_true rfl rfl rfl (by decide +kernel)) (pi_any (K := K) (pe_ix (ixX (K := K)) (pe_ix (ixX (K := K)) (pv 1) (pv 3) (fun _ _ => rfl)) pe_int (fun _ _ => rfl))) (blkOk_by (own := [("name", 10), ("number", 11)]) (N := ["deck", "store", "turn", "here", "pattern", "due", "found", "bad", "wrong", "words", "name", "number"]) (sc := defScope s_law_right) (by decide +kernel)) (fun _ _ _ _ _ => pg_seqX (K := K) (n := 2) rfl (pgs_cons (pg_name (i := 10) sc_law_right.nd rfl (by first | exact Or.inl rfl | exact Or.inr rfl)) (pgs_cons (pg_name (i := 11) sc_law_right.nd rfl (by first | exact Or.inl rfl | exact Or.inr rfl)) pgs_nil))) (fun _ _ _ _ _ => pts_one (pt_val (pe_cal c_law_fits (hr.mono (by decide)) (by rfl) pass0 (pa_cons (pv 4) (pa_cons (pv 10) pa_nil))))) (fun _ _ _ _ _ => (pv 10)))
      (pss_cons (ps_set (i := 6) sc_law_right.nd rfl (by first | exact Or.inl rfl | exact Or.inr rfl) (pe_calS c_matches (hr.mono (by decide)) (by rfl) (fun σ => passAt takes_none5 σ) (pa_cons (pv 1) (pa_cons (pv 3) (pa_cons (pv 4) pa_nil)))))
      (pss_cons (ps_if (pt_cmpR (oNe (K := K) hr.u65) (pv 6) (pv 5) (nomark _)) (pss_one (ps_ret pe_bl)) pss_nil)
      (pss_cons (ps_expr (pe_bmX (K := K) PySem.F.plainAttrs_list PySem.F.slot_list_append PySem.F.type_list_append mt_append (pv 6) (pa_cons pe_str pa_nil)))
      (pss_one (ps_if (pt_cmpR (oNe (K := K) hr.u65) (pe_calK0S (ks := ["pattern", "here", "store"]) (pm := [2, 1, 0]) c_matches (hr.mono (by decide)) (by rfl) (fun _ _ _ _ _ _ us ws h1 h2 => match us, ws, h1, h2 with | [], [_, _, _], _, _ => rfl) (fun σ => passAt takes_none5 σ) (pk_cons (pv 4) (pk_cons (pv 3) (pk_cons (pv 1) pk_nil)))) (pv 5) (nomark _)) (pss_one (ps_ret pe_bl)) pss_nil)))))))))
      (pss_cons (ps_set (i := 7) sc_law_right.nd rfl (by first | exact Or.inl rfl | exact Or.inr rfl) (pe_ix (ixX (K := K)) (pe_lst (pa_cons pe_non (pa_cons pe_str (pa_cons pe_str (pa_cons pe_str (pa_cons pe_int pa_nil)))))) (pe_cal c_law_draw (hr.mono (by decide)) (by rfl) pass0 (pa_cons (pv 0) (pa_cons pe_int pa_nil))) (fun _ _ => rfl)))
      (pss_cons (ps_set (i := 8) sc_law_right.nd rfl (by first | exact Or.inl rfl | exact Or.inr rfl) (pe_ix (ixX (K := K)) (pe_lst (pa_cons (pe_un un_neg pe_int) (pa_cons (pe_callB (call_lenX (K := K)) (by rfl) T.b_len (by decide +kernel) (pa_cons (pv 1) pa_nil)) (pa_cons pe_bl (pa_cons pe_non pa_nil))))) (pe_cal c_law_draw (hr.mono (by decide)) (by rfl) pass0 (pa_cons (pv 0) (pa_cons pe_int pa_nil))) (fun _ _ => rfl)))
      (pss_cons (ps_set (i := 9) sc_law_right.nd rfl (by first | exact Or.inl rfl | exact Or.inr rfl) (pe_lst (pa_cons (pe_cal c_law_word (hr.mono (by decide)) (by rfl) pass0 (pa_cons (pe_callTy (callListX (K := K)) (by rfl) T.b_list (by decide +kernel) (pa_cons (pv 1) pa_nil)) (pa_cons (pv 8) (pa_cons (pv 7) pa_nil)))) (pa_cons (pe_cal c_law_word (hr.mono (by decide)) (by rfl) pass0 (pa_cons (pv 1) (pa_cons (pv 8) (pa_cons (pv 7) pa_nil)))) (pa_cons (pe_cal c_law_word (hr.mono (by decide)) (by rfl) pass0 (pa_cons (pv 1) (pa_cons pe_int (pa_cons (pv 7) pa_nil)))) (pa_cons (pe_cal c_law_word (hr.mono (by decide)) (by rfl) pass0 (pa_cons (pv 1) (pa_cons pe_int (pa_cons pe_str pa_nil)))) pa_nil))))))
      (pss_one (ps_ret (pe_cmpR (oEq (K := K) hr.u65) (pv 9) (pe_lst (pa_cons pe_str (pa_cons pe_str (pa_cons pe_str (pa_cons pe_str pa_nil))))) (nomark _))))))))), ?_⟩
  rw [show start ["deck", "store", "turn", "here", "pattern", "due", "found", "bad", "wrong", "words", "name", "number"] [v_deck] = [some v_deck, none, none, none, none, none, none, none, none, none, none, none] from rfl]
  try dsimp only [cxOf, Cx.nox, Cx.wish]
  obtain ⟨d, rfl, hd, q⟩ := h
  walk_at "rd"
  refine ⟨d, 14, 0, rfl, rfl, by omega, hd, by unfold LIM; omega, fun v s H1 hs wf hl hfew d1 k1 => ?_⟩
  obtain ⟨a, xs, rfl, ha, ps⟩ := hs
  have lx := Paired.length ps
  obtain ⟨es0, hroot⟩ := wf.root
  have st : ∀ {H'}, Ty H1 H' → StAt H' (.ref a) s := fun ty => ⟨a, xs, rfl, ha.up ty, pd_mono (fun _ _ q => NdAt.up q ty) ps⟩
  have room0 : roomV s (.int 0) = true := by
    rw [roomV_int, decide_eq_true (show (0 : Int) ≤ 0 by decide), decide_eq_true (show (0 : Int) < (s.length : Int) by have := wf.l1; omega), List.getD_eq_getElem?_getD, show (0 : Int).toNat = 0 from rfl, hroot]
    rfl
  walk_at "rd"
  refine rd_itR (by decide) (by decide) (fun i σ H' => Kp d H H' ∧ Dk d (1000 + 20 * i) H' ∧ Ty H1 H' ∧ ∃ x2 x3 x4 x5 x6 x7 x8 x9 x10 x11, σ = [some (.ref d), some (.ref a), x2, x3, x4, x5, x6, x7, x8, x9, x10, x11]) ⟨k1, d1, Ty.refl _, _, _, _, _, _, _, _, _, _, _, rfl⟩ ?_ ?_
  · rintro i σ H2 hi ⟨k2, d2, t2, x2, x3, x4, x5, x6, x7, x8, x9, x10, x11, rfl⟩
    have hi' : i < 12 := by omega
    walk_at "rd"
    refine ⟨s, st t2, by omega, fun lR H3 hlR k3 hR => ?_⟩
    have d3 := d2.same k3
    have t3 := t2.trans (Ty.of k3)
    walk_at "rd"
    have l1 := wf.l1
    have mem0 : 0 ∈ (List.range s.length).filter fun k => isRoom (s.getD k none) := List.mem_filter.mpr ⟨List.mem_range.mpr (by omega), by rw [List.getD_eq_getElem?_getD, hroot]; rfl⟩
    have lf := List.length_filter_le (fun k => isRoom (s.getD k none)) (List.range s.length)
    rw [List.length_range] at lf
    refine ⟨d, lR, _, _, rfl, rfl, hR, (d2.ne hlR).symm, (by rw [List.length_map]; exact List.length_pos_iff.mpr fun e => by rw [e] at mem0; cases mem0), (by rw [List.length_map]; omega), d3, (by unfold LIM; omega), fun x H4 hx d4 k4 => ?_⟩
    obtain ⟨k, hk, rfl⟩ := List.mem_map.mp hx
    obtain ⟨hk1, hk2⟩ := List.mem_filter.mp hk
    have kl := List.mem_range.mp hk1
    obtain ⟨es, hes⟩ : ∃ es, s[k]? = some (some (.room es)) := by
      have e0 : s[k]? = some s[k] := List.getElem?_eq_getElem kl
      rw [List.getD_eq_getElem?_getD, e0] at hk2
      rw [e0]
      cases e : s[k] with
      | none => rw [e] at hk2; cases hk2
      | some nd =>
        rw [e] at hk2
        cases nd with
        | room es => exact ⟨es, rfl⟩
        | file t => cases hk2
        | sign t => cases hk2
    have roomk : roomV s (.int k) = true := by
      rw [roomV_int, decide_eq_true (show (0 : Int) ≤ k by omega), decide_eq_true (show (k : Int) < (s.length : Int) by omega), Int.toNat_natCast, hk2]
      rfl
    have okN := wf.nodes _ (List.mem_of_getElem? hes)
    have few := wf.few k
    rw [entsAt_room hes] at few
    have t4 := t3.trans (k4.ty d3)
    have key : ∀ (C : VK) (σ : St), σ[0]? = some (some (.ref d)) → (∀ (z : Str) (ps : List (List Nat × Tk)) (H' : Hp), tl z = (ps.map (·.1)).flatten → Pcs ps → 1 ≤ ps.length → patB (.str z) = true → Dk d (1000 + 20 * i + 12) H' → Kp d H4 H' → Ty H4 H' → C (.str z) H') →
        tIf (tTest (tOp (xEq K) (tCall (sp2 (Φ_law_draw K)) [] E0 (tCons (tVar 0) (tCons (tC (V.int 2)) tNil))) (tC (V.int 0)))) (tCall (sp2 (Φ_law_pattern K)) [] E0 (tCons (tVar 0) (tCons (tC (V.int 3)) tNil)))
          (tOp (xIx K) (tLst (tCons (tC (V.str "*")) (tCons (tC (V.str "?")) (tCons (tC (V.str "*.*")) (tCons (tC (V.str ".*")) (tCons (tC (V.str "[a-f]*")) (tCons (tC (V.str "*[!a]")) (tCons (tC (V.str "x.y")) (tCons (tC (V.str "a*")) tNil))))))))) (tCall (sp2 (Φ_law_draw K)) [] E0 (tCons (tVar 0) (tCons (tC (V.int 8)) tNil)))) σ H4 C := by
      intro C σ h0 fin
      refine rd_ifE ?_
      refine rd_test ?_
      refine rd_op ?_
      refine rd_call ?_
      refine rd_cons ?_
      refine rd_var h0 ?_
      walk_at "rd"
      refine use_draw d4 (by omega) (by omega) (by unfold LIM; omega) fun e H5 e0 e1 d5 k5 => ?_
      walk_at "rd"
      refine rd_ite (fun _ => ?_) (fun _ => ?_)
      · refine rd_call ?_
        refine rd_cons ?_
        refine rd_var h0 ?_
        walk_at "rd"
        refine ⟨d, 3, _, rfl, rfl, by omega, by omega, d5, by unfold LIM; omega, fun z ps H6 hz hps hp1 hpat d6 k6 => ?_⟩
        exact fin z ps H6 hz hps hp1 hpat (d6.mono (by omega)) (k5.trans k6) ((k5.ty d4).trans (k6.ty d5))
      · walk_at "rd"
        intro l hl
        refine rd_call ?_
        refine rd_cons ?_
        refine rd_var h0 ?_
        walk_at "rd"
        refine use_draw (d5.new hl) (by omega) (by omega) (by unfold LIM; omega) fun e' H6 e0' e1' d6 k6 => ?_
        refine pick (xs := LITS.map fun q => V.str q.1) (SqL.of (k6 _ _ (d5.ne hl).symm upd_same)) e0' (by show e' < 8; omega) fun x hx => ?_
        obtain ⟨q, hq, rfl⟩ := List.mem_map.mp hx
        obtain ⟨ps, h1, h2, h3, h4⟩ := lit_pcs (List.all_eq_true.mp lits_ok q hq)
        exact fin q.1 ps H6 h1 h2 h3 h4 (d6.mono (by omega)) ((k5.new hl).trans k6) (((k5.ty d4).new hl).trans (k6.ty (d5.new hl)))
    with_reducible refine rd_gname (by (simp only [L2.wipe, List.map, List.set]); first | done | exact rfl) ?_
    with_reducible refine rd_seq ?_
    with_reducible refine rd_asg ?_
    refine key _ _ rfl fun z pcs H5 hz hpcs hp1 hpat d5 k5 t45 => ?_
    have hz40 : z.length ≤ 40 := by
      rw [patB_str] at hpat
      simp only [Bool.and_eq_true, decide_eq_true_eq] at hpat
      exact hpat.1.2
    have t5 := t4.trans t45
    have kk5 := ((k2.trans (Kp.of k3)).trans k4).trans k5
    clear key k4 k5 t45 hx hk hk1 hR k3 d3 d4 t3 t4 d2 k2 t2
    obtain ⟨vn, hv, na, nb, rfl, hna, ys, hys, pys⟩ := pd_getR ps hes
    have ly := Paired.length pys
    walk_at "rd"
    refine rd_lcT ?_
    walk_at "rd"
    refine rd_ixT (ha.up t5).sq (atI_nat hv) ?_
    walk_at "rd"
    refine rd_ixT (hna.up t5).sq rfl ?_
    refine rd_clT (xs := ys) (hys.up t5).rt.sq (fun D i H' => Same H5 H' ∧ H' D = some (.lst (((es.take i).filter fun e => fitD z e.1).map fun e => V.str e.1))) (fun D hD => ⟨(Same.refl H5).new (o := .lst []) hD, upd_same⟩) (fun D i H' _ _ h => (hys.up (t5.trans (Ty.of h.1))).rt.sq) (fun D i x H' hD hx hP => ?_) (fun D1 H6 hD1 hP => ?_)
    · obtain ⟨k6, hL⟩ := hP
      obtain ⟨e, he, p, rfl, hp⟩ := pd_getL pys hx
      have el := entB_len (okN.1 e (List.mem_of_getElem? he)).1
      have grow : es.take (i + 1) = es.take i ++ [e] := by rw [List.take_add_one, he]; rfl
      refine rd_lcT1 ?_
      refine rd_gtup (hp.up (t5.trans (Ty.of k6))).sq rfl ?_
      walk_at "rd"
      refine ⟨z, e.1, pcs, rfl, rfl, hz, hpcs, hp1, by omega, fun b H7 hb k7 => ?_⟩
      have hb := fit_of hb
      subst hb
      walk_at "rd"
      have lf := List.length_filter_le (fun e : Str × Nat => fitD z e.1) (es.take i)
      rw [List.length_take] at lf
      refine rd_ite (fun hf => ?_) (fun hf => ?_)
      · walk_at "rd"
        refine ⟨_, k7 _ _ hL, szLt (by rw [List.length_map]; omega), (k6.trans k7).put hD, ?_⟩
        rw [upd_same, grow, List.filter_append, List.map_append]
        simp only [List.filter_cons, hf, List.filter_nil, if_true, List.map_cons, List.map_nil]
      · refine ⟨k6.trans k7, ?_⟩
        rw [k7 _ _ hL, grow, List.filter_append, List.map_append]
        simp only [List.filter_cons, hf, List.filter_nil, Bool.false_eq_true, if_false, List.map_nil, List.append_nil]
    · obtain ⟨k6, hL⟩ := hP
      rw [ly, List.take_length] at hL
      obtain ⟨due, hdue⟩ : ∃ due, due = es.filter fun e => fitD z e.1 := ⟨_, rfl⟩
      rw [← hdue] at hL
      have dueok : ∀ e ∈ due, e.1.length ≤ 12 ∧ ∀ c ∈ tl e.1, c < 0x110000 := fun e he => by
        rw [hdue] at he
        have := (okN.1 e (List.mem_filter.mp he).1).1
        exact ⟨(entB_len this).2, entB_lt this⟩
      have duel : due.length ≤ 1000 := by rw [hdue]; exact Nat.le_trans (List.length_filter_le _ _) few
      have sh := names_shaped dueok
      have call : ∀ (H' : Hp) (Q : VK) (E : XK), Ty H1 H' → (∀ D H'', H' D = none → Same H' H'' → H'' D = some (.lst (due.map fun e => V.str e.1)) → Q (.ref D) H'') → Φ_matches K mg (.ref a) (.int (k : Nat)) (.str z) H' Q E := by
        intro H' Q E ty q
        refine .inr ⟨s, st ty, wf, .inl ⟨_, rfl⟩, .inl ⟨z, rfl, by omega⟩, (fun h => by rw [roomk] at h; cases h), (fun _ h => by rw [hpat] at h; cases h), fun _ _ D H'' hD kk hL => q D H'' hD kk ?_⟩
        rw [show roomKey (V.int (k : Int)) = k from Int.toNat_natCast k, entsAt_room hes] at hL
        rw [hdue]
        exact hL
      have t6 := t5.trans (Ty.of k6)
      walk_at "rd"
      refine call _ _ _ t6 fun D2 H7 hD2 k7 hL2 => ?_
      have hL7 := k7 _ _ hL
      have D12 : D1 ≠ D2 := fun e => by rw [← e, hL] at hD2; cases hD2
      walk_at "rd"
      refine rd_neD (d := .list (due.map fun e => .str e.1)) (e := .list (due.map fun e => .str e.1)) (.lst (SqL.of hL2) (dp_names due)) (.lst (SqL.of hL7) (dp_names due)) sh sh ?_
      rw [names_self]
      walk_at "rd"
      refine rd_tyL (SqL.of hL2) ?_
      walk_at "rd"
      refine rd_app hL2 (szLt (by rw [List.length_map]; omega)) ?_
      have t7 := (t6.trans (Ty.of k7)).lst (o := .lst (due.map (fun e => V.str e.1) ++ [V.str "x"])) hL2
      have k67 := (k6.trans k7)
      have D2d : D2 ≠ d := (((d5.same k6).ne hD2)).symm
      have kk8 : Kp d H (upd H7 D2 (.lst (due.map (fun e => V.str e.1) ++ [V.str "x"]))) := (kk5.trans (Kp.of k67)).put ((kk5.trans (Kp.of k6)).free D2d hD2)
      have d8 := (d5.same k67).put (o := .lst (due.map (fun e => V.str e.1) ++ [V.str "x"])) D2d.symm
      have hL8 : upd H7 D2 (.lst (due.map (fun e => V.str e.1) ++ [V.str "x"])) D1 = some (.lst (due.map fun e => V.str e.1)) := by rw [upd_ne D12]; exact hL7
      generalize upd H7 D2 (.lst (due.map (fun e => V.str e.1) ++ [V.str "x"])) = H8 at t7 kk8 d8 hL8 ⊢
      walk_at "rd"
      refine ⟨rfl, rfl, _, _, _, rfl, call _ _ _ t7 fun D3 H9 hD3 k9 hL3 => ?_⟩
      walk_at "rd"
      refine rd_neD (d := .list (due.map fun e => .str e.1)) (e := .list (due.map fun e => .str e.1)) (.lst (SqL.of hL3) (dp_names due)) (.lst (SqL.of (k9 _ _ hL8)) (dp_names due)) sh sh ?_
      rw [names_self]
      walk_at "rd"
      exact ⟨kk8.trans (Kp.of k9), (d8.same k9).mono (by omega), t7.trans (Ty.of k9), _, _, _, _, _, _, _, _, _, _, rfl⟩
  · rintro σ H2 ⟨k2, d2, t2, x2, x3, x4, x5, x6, x7, x8, x9, x10, x11, rfl⟩
    walk_at "rd"
    intro l1 hl1
    walk_at "rd"
    refine use_draw (d2.new hl1) (by omega) (by omega) (by unfold LIM; decide) fun e H3 e0 e1 d3 k3 => ?_
    have t3 := (t2.new (o := .lst [V.non, V.str "", V.str "[", V.str "a/b", V.int 7]) hl1).trans (k3.ty (d2.new hl1))
    have kk3 := (k2.new (o := .lst [V.non, V.str "", V.str "[", V.str "a/b", V.int 7]) hl1).trans k3
    refine pick (SqL.of (k3 _ _ (d2.ne hl1).symm upd_same)) e0 (by show e < 5; omega) fun bad hbad => ?_
    have hb : ∀ H', AnyP K H' bad ∧ patB bad = false := fun H' => by
      have nos : ∀ {v : V} {t : String}, TyX K H' v (.type t) → PySem.W.kitOne K (.type t) (.type "str") = some false → patB v = false → AnyP K H' v := fun h hk hp => .inr ⟨hp, _, h, hk⟩
      simp only [List.mem_cons, List.not_mem_nil, or_false] at hbad
      rcases hbad with rfl | rfl | rfl | rfl | rfl
      · exact ⟨nos (.base .non) (kit_ty (by decide +kernel)) rfl, rfl⟩
      · exact ⟨.inl ⟨_, rfl, by decide +kernel⟩, by decide +kernel⟩
      · exact ⟨.inl ⟨_, rfl, by decide +kernel⟩, by decide +kernel⟩
      · exact ⟨.inl ⟨_, rfl, by decide +kernel⟩, by decide +kernel⟩
      · exact ⟨nos (.base (.int 7)) (kit_ty (by decide +kernel)) rfl, rfl⟩
    walk_at "rd"
    refine ⟨1, rfl, ?_⟩
    walk_at "rd"
    refine rd_lenT (ha.up t3).sq ?_
    walk_at "rd"
    intro l2 hl2
    walk_at "rd"
    refine use_draw (d3.new hl2) (by omega) (by omega) (by unfold LIM; decide) fun e' H4 e0' e1' d4 k4 => ?_
    have t4 := (t3.new (o := .lst [V.int (-1), V.int (xs.length : Nat), V.bl true, V.non]) hl2).trans (k4.ty (d3.new hl2))
    have kk4 := (kk3.new (o := .lst [V.int (-1), V.int (xs.length : Nat), V.bl true, V.non]) hl2).trans k4
    refine pick (SqL.of (k4 _ _ (d3.ne hl2).symm upd_same)) e0' (by show e' < 4; omega) fun wr hwr => ?_
    have hw : KV wr ∧ roomV s wr = false := by
      simp only [List.mem_cons, List.not_mem_nil, or_false] at hwr
      rcases hwr with rfl | rfl | rfl | rfl
      · exact ⟨.inl ⟨_, rfl⟩, rfl⟩
      · refine ⟨.inl ⟨_, rfl⟩, ?_⟩
        rw [roomV_int, decide_eq_false (show ¬ ((xs.length : Nat) : Int) < (s.length : Int) by omega), Bool.and_false, Bool.false_and]
      · exact ⟨.inr (.inr ⟨_, rfl⟩), rfl⟩
      · exact ⟨.inr (.inl rfl), rfl⟩
    walk_at "rd"
    refine rd_lstT (ha.up t4).sq fun l3 hl3 => ?_
    have t5 := t4.new (o := .lst xs) hl3
    have kk5 := kk4.new (o := .lst xs) hl3
    walk_at "rd"
    refine .inl ⟨.type "list", .base (.lst upd_same), kit_ty (by decide +kernel), ?_⟩
    walk_at "rd"
    refine .inr ⟨s, st t5, wf, hw.1, (hb _).1, fun H5 k5 => ?_⟩
    rw [show wordM s wr bad = "here" by unfold wordM; rw [if_pos hw.2]]
    have t6 := t5.trans (Ty.of k5)
    walk_at "rd"
    refine .inr ⟨s, st t6, wf, .inl ⟨_, rfl⟩, (hb _).1, fun H6 k6 => ?_⟩
    rw [show wordM s (.int 0) bad = "pattern" by unfold wordM; rw [room0, if_neg Bool.noConfusion, if_pos (hb H).2]]
    have t7 := t6.trans (Ty.of k6)
    walk_at "rd"
    refine .inr ⟨s, st t7, wf, .inl ⟨_, rfl⟩, .inl ⟨_, rfl, by decide +kernel⟩, fun H7 k7 => ?_⟩
    rw [show wordM s (.int 0) (.str "*") = "none" by unfold wordM; rw [room0, if_neg Bool.noConfusion, if_neg (by rw [show patB (.str "*") = true by decide +kernel]; exact Bool.noConfusion)]]
    walk_at "rd"
    intro l4 hl4
    walk_at "rd"
    intro l5 hl5
    have e8 := (Same.refl H7).new (o := .lst [V.str "store", V.str "here", V.str "pattern", V.str "none"]) hl4
    have e9 := e8.new (o := .lst [V.str "store", V.str "here", V.str "pattern", V.str "none"]) hl5
    refine rd_eqD (d := .list [.str "store", .str "here", .str "pattern", .str "none"]) (e := .list [.str "store", .str "here", .str "pattern", .str "none"]) (.lst (SqL.of ?_) (.cons (.str _) (.cons (.str _) (.cons (.str _) (.cons (.str _) .nil))))) (.lst (SqL.of upd_same) (.cons (.str _) (.cons (.str _) (.cons (.str _) (.cons (.str _) .nil))))) (by decide +kernel) (by decide +kernel) ?_
    · exact ((Same.refl _).new (o := .lst [V.str "store", V.str "here", V.str "pattern", V.str "none"]) hl5) _ _ upd_same
    rw [show PyData.eqv (.list [.str "store", .str "here", .str "pattern", .str "none"]) (.list [.str "store", .str "here", .str "pattern", .str "none"]) = true by decide +kernel]
    exact q _ (((kk5.trans (Kp.of k5)).trans (Kp.of k6)).trans (Kp.of (k7.trans e9)))
def Φ_law (K : PySem.W.Frag) (v : V) (H : Hp) (Q : VK) : Prop := ∃ (a : Addr) (ns : List Int), v = .ref a ∧ SqL K H a (ns.map V.int) ∧ ns.length ≤ 63 ∧ ∀ H', Q (.bl true) H'
theorem ok_law (T : Txt P K mg) {f : Addr} {fd : FuncData} (F : Fun K "law" "law" s_law f fd) : Keeps P w K mg base CX0 9 f fd ["script"] (sp1 (Φ_law K)) := by
  have c_law_right := cal (P := P) (w := w) (base := base) T.d_law_right fun F => ok_law_right T F
  have c_law_deck := cal (P := P) (w := w) (base := base) T.d_law_deck fun F => ok_law_deck T F
  refine keeps0_of F sc_law (fun vs H Q E h => ?_) (fun cdv A outer s H vs Q E hr h => ?_)
  · obtain ⟨_, rfl, _⟩ := h
    rfl
  obtain ⟨v_script, rfl, h⟩ := h
  have hu := hr.hu
  refine ⟨_, (pss_cons (ps_for PassesOwn.never rfl (pi_range1 (by rfl) T.b_range (pa_cons (pe_callB (call_maxX rfl) (by rfl) T.b_max (by decide +kernel) (pa_cons pe_int (pa_cons (pe_callB (call_minX rfl) (by rfl) T.b_min (by decide +kernel) (pa_cons pe_int (pa_cons (pe_callB (call_lenX (K := K)) (by rfl) T.b_len (by decide +kernel) (pa_cons (pv 0) pa_nil)) pa_nil))) pa_nil))) pa_nil)) (pg_name (i := 1) sc_law.nd rfl (by first | exact Or.inl rfl | exact Or.inr rfl)) (pss_one (ps_if (pt_not (pt_val (pe_cal c_law_right (hr.mono (by decide)) (by rfl) pass0 (pa_cons (pe_cal c_law_deck (hr.mono (by decide)) (by rfl) pass0 (pa_cons (pv 0) (pa_cons (pv 1) pa_nil))) pa_nil)))) (pss_one (ps_ret pe_bl)) pss_nil)))
      (pss_one (ps_ret pe_bl))), ?_⟩
  rw [show start ["script", "k"] [v_script] = [some v_script, none] from rfl]
  try dsimp only [cxOf, Cx.nox, Cx.wish]
  obtain ⟨a, ns, rfl, hS, hl, q⟩ := h
  walk_at "rd"
  refine rd_lenL hS ?_
  walk_at "rd"
  rw [List.length_map]
  refine rd_itR (by omega) (by omega) (fun i σ H' => Same H H' ∧ ∃ x, σ = [some (.ref a), x]) ⟨Same.refl H, _, rfl⟩ ?_ ?_
  · rintro i σ H1 hi ⟨k1, x, rfl⟩
    walk_at "rd"
    refine ⟨a, ns, i, rfl, rfl, k1.seq hS, hl, by omega, by omega, fun d H2 hd d2 k2 => ?_⟩
    walk_at "rd"
    refine ⟨d, rfl, d2, fun H3 k3 => ?_⟩
    walk_at "rd"
    exact ⟨fun b o e => k3 _ _ (ne_of_none (k1 _ _ e) hd) (k2 _ _ (k1 _ _ e)), _, rfl⟩
  · rintro σ H1 ⟨k1, x, rfl⟩
    walk_at "rd"
    exact q H1

end
/-- the facts of the top -/
theorem all_mk {P : Program} {K : PySem.W.Frag} {h : Heap} {mg : Str → Option Value} (X : K.In h) (G : h.Ns mainGlobals mg)
    {u_MOST_PATTERN u_ANY u_ONE u_SIGN_patterns u_SET u_NO_ITEMS u_FILE u_ROOM u_SIGN_storeways u_HERE u_ABOVE u_ROOT u_MOST_NODES u_MOST_TEXT u_MOST_PATH u_MOST_NAME u_NAME_SIGNS : Value}
    (h_MOST_PATTERN : PySem.W.nsIn K mainGlobals "MOST_PATTERN" = some (some u_MOST_PATTERN)) (r_MOST_PATTERN : RelV (.int 40) u_MOST_PATTERN)
    (h_ANY : PySem.W.nsIn K mainGlobals "ANY" = some (some u_ANY)) (r_ANY : RelV (.str "any") u_ANY)
    (h_ONE : PySem.W.nsIn K mainGlobals "ONE" = some (some u_ONE)) (r_ONE : RelV (.str "one") u_ONE)
    (h_SIGN_patterns : PySem.W.nsIn K mainGlobals "SIGN_patterns" = some (some u_SIGN_patterns)) (r_SIGN_patterns : RelV (.str "sign") u_SIGN_patterns)
    (h_SET : PySem.W.nsIn K mainGlobals "SET" = some (some u_SET)) (r_SET : RelV (.str "set") u_SET)
    (h_NO_ITEMS : PySem.W.nsIn K mainGlobals "NO_ITEMS" = some (some u_NO_ITEMS)) (r_NO_ITEMS : RelV (.str "[]!-") u_NO_ITEMS)
    (h_FILE : PySem.W.nsIn K mainGlobals "FILE" = some (some u_FILE)) (r_FILE : RelV (.str "file") u_FILE)
    (h_ROOM : PySem.W.nsIn K mainGlobals "ROOM" = some (some u_ROOM)) (r_ROOM : RelV (.str "room") u_ROOM)
    (h_SIGN_storeways : PySem.W.nsIn K mainGlobals "SIGN_storeways" = some (some u_SIGN_storeways)) (r_SIGN_storeways : RelV (.str "sign") u_SIGN_storeways)
    (h_HERE : PySem.W.nsIn K mainGlobals "HERE" = some (some u_HERE)) (r_HERE : RelV (.str ".") u_HERE)
    (h_ABOVE : PySem.W.nsIn K mainGlobals "ABOVE" = some (some u_ABOVE)) (r_ABOVE : RelV (.str "..") u_ABOVE)
    (h_ROOT : PySem.W.nsIn K mainGlobals "ROOT" = some (some u_ROOT)) (r_ROOT : RelV (.str "/") u_ROOT)
    (h_MOST_NODES : PySem.W.nsIn K mainGlobals "MOST_NODES" = some (some u_MOST_NODES)) (r_MOST_NODES : RelV (.int 60) u_MOST_NODES)
    (h_MOST_TEXT : PySem.W.nsIn K mainGlobals "MOST_TEXT" = some (some u_MOST_TEXT)) (r_MOST_TEXT : RelV (.int 400) u_MOST_TEXT)
    (h_MOST_PATH : PySem.W.nsIn K mainGlobals "MOST_PATH" = some (some u_MOST_PATH)) (r_MOST_PATH : RelV (.int 100) u_MOST_PATH)
    (h_MOST_NAME : PySem.W.nsIn K mainGlobals "MOST_NAME" = some (some u_MOST_NAME)) (r_MOST_NAME : RelV (.int 12) u_MOST_NAME)
    (h_NAME_SIGNS : PySem.W.nsIn K mainGlobals "NAME_SIGNS" = some (some u_NAME_SIGNS)) (r_NAME_SIGNS : RelV (.str "abcdefghijklmnopqrstuvwxyz0123456789.-_") u_NAME_SIGNS)
    {f_items_of : Addr} {od_items_of an_items_of : Option Addr} {sl_items_of : Array (Option Value)} {oc_items_of kV_items_of dc_items_of pm_items_of cd_items_of ct_items_of : Value}
    (a_items_of : PySem.W.nsIn K mainGlobals "items_of" = some (some (.ref f_items_of))) (l_items_of : K.lookup f_items_of = some ⟨oc_items_of, od_items_of, .func (PySem.W.fnOf "items_of" "items_of" (defArgs s_items_of) (defBody s_items_of) (defScope s_items_of) .none kV_items_of dc_items_of pm_items_of an_items_of cd_items_of ct_items_of), sl_items_of⟩) (c_items_of : PySem.W.codeIn K cd_items_of "items_of" = true) (k_items_of : PySem.W.keepIn K (.ref f_items_of) = true)
    {f_set_at : Addr} {od_set_at an_set_at : Option Addr} {sl_set_at : Array (Option Value)} {oc_set_at kV_set_at dc_set_at pm_set_at cd_set_at ct_set_at : Value}
    (a_set_at : PySem.W.nsIn K mainGlobals "set_at" = some (some (.ref f_set_at))) (l_set_at : K.lookup f_set_at = some ⟨oc_set_at, od_set_at, .func (PySem.W.fnOf "set_at" "set_at" (defArgs s_set_at) (defBody s_set_at) (defScope s_set_at) .none kV_set_at dc_set_at pm_set_at an_set_at cd_set_at ct_set_at), sl_set_at⟩) (c_set_at : PySem.W.codeIn K cd_set_at "set_at" = true) (k_set_at : PySem.W.keepIn K (.ref f_set_at) = true)
    {f_tokens_of : Addr} {od_tokens_of an_tokens_of : Option Addr} {sl_tokens_of : Array (Option Value)} {oc_tokens_of kV_tokens_of dc_tokens_of pm_tokens_of cd_tokens_of ct_tokens_of : Value}
    (a_tokens_of : PySem.W.nsIn K mainGlobals "tokens_of" = some (some (.ref f_tokens_of))) (l_tokens_of : K.lookup f_tokens_of = some ⟨oc_tokens_of, od_tokens_of, .func (PySem.W.fnOf "tokens_of" "tokens_of" (defArgs s_tokens_of) (defBody s_tokens_of) (defScope s_tokens_of) .none kV_tokens_of dc_tokens_of pm_tokens_of an_tokens_of cd_tokens_of ct_tokens_of), sl_tokens_of⟩) (c_tokens_of : PySem.W.codeIn K cd_tokens_of "tokens_of" = true) (k_tokens_of : PySem.W.keepIn K (.ref f_tokens_of) = true)
    {f_is_a_pattern : Addr} {od_is_a_pattern an_is_a_pattern : Option Addr} {sl_is_a_pattern : Array (Option Value)} {oc_is_a_pattern kV_is_a_pattern dc_is_a_pattern pm_is_a_pattern cd_is_a_pattern ct_is_a_pattern : Value}
    (a_is_a_pattern : PySem.W.nsIn K mainGlobals "is_a_pattern" = some (some (.ref f_is_a_pattern))) (l_is_a_pattern : K.lookup f_is_a_pattern = some ⟨oc_is_a_pattern, od_is_a_pattern, .func (PySem.W.fnOf "is_a_pattern" "is_a_pattern" (defArgs s_is_a_pattern) (defBody s_is_a_pattern) (defScope s_is_a_pattern) .none kV_is_a_pattern dc_is_a_pattern pm_is_a_pattern an_is_a_pattern cd_is_a_pattern ct_is_a_pattern), sl_is_a_pattern⟩) (c_is_a_pattern : PySem.W.codeIn K cd_is_a_pattern "is_a_pattern" = true) (k_is_a_pattern : PySem.W.keepIn K (.ref f_is_a_pattern) = true)
    {f_token_fits : Addr} {od_token_fits an_token_fits : Option Addr} {sl_token_fits : Array (Option Value)} {oc_token_fits kV_token_fits dc_token_fits pm_token_fits cd_token_fits ct_token_fits : Value}
    (a_token_fits : PySem.W.nsIn K mainGlobals "token_fits" = some (some (.ref f_token_fits))) (l_token_fits : K.lookup f_token_fits = some ⟨oc_token_fits, od_token_fits, .func (PySem.W.fnOf "token_fits" "token_fits" (defArgs s_token_fits) (defBody s_token_fits) (defScope s_token_fits) .none kV_token_fits dc_token_fits pm_token_fits an_token_fits cd_token_fits ct_token_fits), sl_token_fits⟩) (c_token_fits : PySem.W.codeIn K cd_token_fits "token_fits" = true) (k_token_fits : PySem.W.keepIn K (.ref f_token_fits) = true)
    {f_with_skips : Addr} {od_with_skips an_with_skips : Option Addr} {sl_with_skips : Array (Option Value)} {oc_with_skips kV_with_skips dc_with_skips pm_with_skips cd_with_skips ct_with_skips : Value}
    (a_with_skips : PySem.W.nsIn K mainGlobals "with_skips" = some (some (.ref f_with_skips))) (l_with_skips : K.lookup f_with_skips = some ⟨oc_with_skips, od_with_skips, .func (PySem.W.fnOf "with_skips" "with_skips" (defArgs s_with_skips) (defBody s_with_skips) (defScope s_with_skips) .none kV_with_skips dc_with_skips pm_with_skips an_with_skips cd_with_skips ct_with_skips), sl_with_skips⟩) (c_with_skips : PySem.W.codeIn K cd_with_skips "with_skips" = true) (k_with_skips : PySem.W.keepIn K (.ref f_with_skips) = true)
    {f_is_fitting : Addr} {od_is_fitting an_is_fitting : Option Addr} {sl_is_fitting : Array (Option Value)} {oc_is_fitting kV_is_fitting dc_is_fitting pm_is_fitting cd_is_fitting ct_is_fitting : Value}
    (a_is_fitting : PySem.W.nsIn K mainGlobals "is_fitting" = some (some (.ref f_is_fitting))) (l_is_fitting : K.lookup f_is_fitting = some ⟨oc_is_fitting, od_is_fitting, .func (PySem.W.fnOf "is_fitting" "is_fitting" (defArgs s_is_fitting) (defBody s_is_fitting) (defScope s_is_fitting) .none kV_is_fitting dc_is_fitting pm_is_fitting an_is_fitting cd_is_fitting ct_is_fitting), sl_is_fitting⟩) (c_is_fitting : PySem.W.codeIn K cd_is_fitting "is_fitting" = true) (k_is_fitting : PySem.W.keepIn K (.ref f_is_fitting) = true)
    {f_is_whole : Addr} {od_is_whole an_is_whole : Option Addr} {sl_is_whole : Array (Option Value)} {oc_is_whole kV_is_whole dc_is_whole pm_is_whole cd_is_whole ct_is_whole : Value}
    (a_is_whole : PySem.W.nsIn K mainGlobals "is_whole" = some (some (.ref f_is_whole))) (l_is_whole : K.lookup f_is_whole = some ⟨oc_is_whole, od_is_whole, .func (PySem.W.fnOf "is_whole" "is_whole" (defArgs s_is_whole) (defBody s_is_whole) (defScope s_is_whole) .none kV_is_whole dc_is_whole pm_is_whole an_is_whole cd_is_whole ct_is_whole), sl_is_whole⟩) (c_is_whole : PySem.W.codeIn K cd_is_whole "is_whole" = true) (k_is_whole : PySem.W.keepIn K (.ref f_is_whole) = true)
    {f_is_plain : Addr} {od_is_plain an_is_plain : Option Addr} {sl_is_plain : Array (Option Value)} {oc_is_plain kV_is_plain dc_is_plain pm_is_plain cd_is_plain ct_is_plain : Value}
    (a_is_plain : PySem.W.nsIn K mainGlobals "is_plain" = some (some (.ref f_is_plain))) (l_is_plain : K.lookup f_is_plain = some ⟨oc_is_plain, od_is_plain, .func (PySem.W.fnOf "is_plain" "is_plain" (defArgs s_is_plain) (defBody s_is_plain) (defScope s_is_plain) .none kV_is_plain dc_is_plain pm_is_plain an_is_plain cd_is_plain ct_is_plain), sl_is_plain⟩) (c_is_plain : PySem.W.codeIn K cd_is_plain "is_plain" = true) (k_is_plain : PySem.W.keepIn K (.ref f_is_plain) = true)
    {f_is_text : Addr} {od_is_text an_is_text : Option Addr} {sl_is_text : Array (Option Value)} {oc_is_text kV_is_text dc_is_text pm_is_text cd_is_text ct_is_text : Value}
    (a_is_text : PySem.W.nsIn K mainGlobals "is_text" = some (some (.ref f_is_text))) (l_is_text : K.lookup f_is_text = some ⟨oc_is_text, od_is_text, .func (PySem.W.fnOf "is_text" "is_text" (defArgs s_is_text) (defBody s_is_text) (defScope s_is_text) .none kV_is_text dc_is_text pm_is_text an_is_text cd_is_text ct_is_text), sl_is_text⟩) (c_is_text : PySem.W.codeIn K cd_is_text "is_text" = true) (k_is_text : PySem.W.keepIn K (.ref f_is_text) = true)
    {f_is_entry_name : Addr} {od_is_entry_name an_is_entry_name : Option Addr} {sl_is_entry_name : Array (Option Value)} {oc_is_entry_name kV_is_entry_name dc_is_entry_name pm_is_entry_name cd_is_entry_name ct_is_entry_name : Value}
    (a_is_entry_name : PySem.W.nsIn K mainGlobals "is_entry_name" = some (some (.ref f_is_entry_name))) (l_is_entry_name : K.lookup f_is_entry_name = some ⟨oc_is_entry_name, od_is_entry_name, .func (PySem.W.fnOf "is_entry_name" "is_entry_name" (defArgs s_is_entry_name) (defBody s_is_entry_name) (defScope s_is_entry_name) .none kV_is_entry_name dc_is_entry_name pm_is_entry_name an_is_entry_name cd_is_entry_name ct_is_entry_name), sl_is_entry_name⟩) (c_is_entry_name : PySem.W.codeIn K cd_is_entry_name "is_entry_name" = true) (k_is_entry_name : PySem.W.keepIn K (.ref f_is_entry_name) = true)
    {f_is_a_path : Addr} {od_is_a_path an_is_a_path : Option Addr} {sl_is_a_path : Array (Option Value)} {oc_is_a_path kV_is_a_path dc_is_a_path pm_is_a_path cd_is_a_path ct_is_a_path : Value}
    (a_is_a_path : PySem.W.nsIn K mainGlobals "is_a_path" = some (some (.ref f_is_a_path))) (l_is_a_path : K.lookup f_is_a_path = some ⟨oc_is_a_path, od_is_a_path, .func (PySem.W.fnOf "is_a_path" "is_a_path" (defArgs s_is_a_path) (defBody s_is_a_path) (defScope s_is_a_path) .none kV_is_a_path dc_is_a_path pm_is_a_path an_is_a_path cd_is_a_path ct_is_a_path), sl_is_a_path⟩) (c_is_a_path : PySem.W.codeIn K cd_is_a_path "is_a_path" = true) (k_is_a_path : PySem.W.keepIn K (.ref f_is_a_path) = true)
    {f_are_entries : Addr} {od_are_entries an_are_entries : Option Addr} {sl_are_entries : Array (Option Value)} {oc_are_entries kV_are_entries dc_are_entries pm_are_entries cd_are_entries ct_are_entries : Value}
    (a_are_entries : PySem.W.nsIn K mainGlobals "are_entries" = some (some (.ref f_are_entries))) (l_are_entries : K.lookup f_are_entries = some ⟨oc_are_entries, od_are_entries, .func (PySem.W.fnOf "are_entries" "are_entries" (defArgs s_are_entries) (defBody s_are_entries) (defScope s_are_entries) .none kV_are_entries dc_are_entries pm_are_entries an_are_entries cd_are_entries ct_are_entries), sl_are_entries⟩) (c_are_entries : PySem.W.codeIn K cd_are_entries "are_entries" = true) (k_are_entries : PySem.W.keepIn K (.ref f_are_entries) = true)
    {f_is_node : Addr} {od_is_node an_is_node : Option Addr} {sl_is_node : Array (Option Value)} {oc_is_node kV_is_node dc_is_node pm_is_node cd_is_node ct_is_node : Value}
    (a_is_node : PySem.W.nsIn K mainGlobals "is_node" = some (some (.ref f_is_node))) (l_is_node : K.lookup f_is_node = some ⟨oc_is_node, od_is_node, .func (PySem.W.fnOf "is_node" "is_node" (defArgs s_is_node) (defBody s_is_node) (defScope s_is_node) .none kV_is_node dc_is_node pm_is_node an_is_node cd_is_node ct_is_node), sl_is_node⟩) (c_is_node : PySem.W.codeIn K cd_is_node "is_node" = true) (k_is_node : PySem.W.keepIn K (.ref f_is_node) = true)
    {f_hangs_together : Addr} {od_hangs_together an_hangs_together : Option Addr} {sl_hangs_together : Array (Option Value)} {oc_hangs_together kV_hangs_together dc_hangs_together pm_hangs_together cd_hangs_together ct_hangs_together : Value}
    (a_hangs_together : PySem.W.nsIn K mainGlobals "hangs_together" = some (some (.ref f_hangs_together))) (l_hangs_together : K.lookup f_hangs_together = some ⟨oc_hangs_together, od_hangs_together, .func (PySem.W.fnOf "hangs_together" "hangs_together" (defArgs s_hangs_together) (defBody s_hangs_together) (defScope s_hangs_together) .none kV_hangs_together dc_hangs_together pm_hangs_together an_hangs_together cd_hangs_together ct_hangs_together), sl_hangs_together⟩) (c_hangs_together : PySem.W.codeIn K cd_hangs_together "hangs_together" = true) (k_hangs_together : PySem.W.keepIn K (.ref f_hangs_together) = true)
    {f_is_a_store : Addr} {od_is_a_store an_is_a_store : Option Addr} {sl_is_a_store : Array (Option Value)} {oc_is_a_store kV_is_a_store dc_is_a_store pm_is_a_store cd_is_a_store ct_is_a_store : Value}
    (a_is_a_store : PySem.W.nsIn K mainGlobals "is_a_store" = some (some (.ref f_is_a_store))) (l_is_a_store : K.lookup f_is_a_store = some ⟨oc_is_a_store, od_is_a_store, .func (PySem.W.fnOf "is_a_store" "is_a_store" (defArgs s_is_a_store) (defBody s_is_a_store) (defScope s_is_a_store) .none kV_is_a_store dc_is_a_store pm_is_a_store an_is_a_store cd_is_a_store ct_is_a_store), sl_is_a_store⟩) (c_is_a_store : PySem.W.codeIn K cd_is_a_store "is_a_store" = true) (k_is_a_store : PySem.W.keepIn K (.ref f_is_a_store) = true)
    {f_is_room : Addr} {od_is_room an_is_room : Option Addr} {sl_is_room : Array (Option Value)} {oc_is_room kV_is_room dc_is_room pm_is_room cd_is_room ct_is_room : Value}
    (a_is_room : PySem.W.nsIn K mainGlobals "is_room" = some (some (.ref f_is_room))) (l_is_room : K.lookup f_is_room = some ⟨oc_is_room, od_is_room, .func (PySem.W.fnOf "is_room" "is_room" (defArgs s_is_room) (defBody s_is_room) (defScope s_is_room) .none kV_is_room dc_is_room pm_is_room an_is_room cd_is_room ct_is_room), sl_is_room⟩) (c_is_room : PySem.W.codeIn K cd_is_room "is_room" = true) (k_is_room : PySem.W.keepIn K (.ref f_is_room) = true)
    {f_need_store : Addr} {od_need_store an_need_store : Option Addr} {sl_need_store : Array (Option Value)} {oc_need_store kV_need_store dc_need_store pm_need_store cd_need_store ct_need_store : Value}
    (a_need_store : PySem.W.nsIn K mainGlobals "need_store" = some (some (.ref f_need_store))) (l_need_store : K.lookup f_need_store = some ⟨oc_need_store, od_need_store, .func (PySem.W.fnOf "need_store" "need_store" (defArgs s_need_store) (defBody s_need_store) (defScope s_need_store) .none kV_need_store dc_need_store pm_need_store an_need_store cd_need_store ct_need_store), sl_need_store⟩) (c_need_store : PySem.W.codeIn K cd_need_store "need_store" = true) (k_need_store : PySem.W.keepIn K (.ref f_need_store) = true)
    {f_need_room : Addr} {od_need_room an_need_room : Option Addr} {sl_need_room : Array (Option Value)} {oc_need_room kV_need_room dc_need_room pm_need_room cd_need_room ct_need_room : Value}
    (a_need_room : PySem.W.nsIn K mainGlobals "need_room" = some (some (.ref f_need_room))) (l_need_room : K.lookup f_need_room = some ⟨oc_need_room, od_need_room, .func (PySem.W.fnOf "need_room" "need_room" (defArgs s_need_room) (defBody s_need_room) (defScope s_need_room) .none kV_need_room dc_need_room pm_need_room an_need_room cd_need_room ct_need_room), sl_need_room⟩) (c_need_room : PySem.W.codeIn K cd_need_room "need_room" = true) (k_need_room : PySem.W.keepIn K (.ref f_need_room) = true)
    {f_entry_names : Addr} {od_entry_names an_entry_names : Option Addr} {sl_entry_names : Array (Option Value)} {oc_entry_names kV_entry_names dc_entry_names pm_entry_names cd_entry_names ct_entry_names : Value}
    (a_entry_names : PySem.W.nsIn K mainGlobals "entry_names" = some (some (.ref f_entry_names))) (l_entry_names : K.lookup f_entry_names = some ⟨oc_entry_names, od_entry_names, .func (PySem.W.fnOf "entry_names" "entry_names" (defArgs s_entry_names) (defBody s_entry_names) (defScope s_entry_names) .none kV_entry_names dc_entry_names pm_entry_names an_entry_names cd_entry_names ct_entry_names), sl_entry_names⟩) (c_entry_names : PySem.W.codeIn K cd_entry_names "entry_names" = true) (k_entry_names : PySem.W.keepIn K (.ref f_entry_names) = true)
    {f_need_pattern : Addr} {od_need_pattern an_need_pattern : Option Addr} {sl_need_pattern : Array (Option Value)} {oc_need_pattern kV_need_pattern dc_need_pattern pm_need_pattern cd_need_pattern ct_need_pattern : Value}
    (a_need_pattern : PySem.W.nsIn K mainGlobals "need_pattern" = some (some (.ref f_need_pattern))) (l_need_pattern : K.lookup f_need_pattern = some ⟨oc_need_pattern, od_need_pattern, .func (PySem.W.fnOf "need_pattern" "need_pattern" (defArgs s_need_pattern) (defBody s_need_pattern) (defScope s_need_pattern) .none kV_need_pattern dc_need_pattern pm_need_pattern an_need_pattern cd_need_pattern ct_need_pattern), sl_need_pattern⟩) (c_need_pattern : PySem.W.codeIn K cd_need_pattern "need_pattern" = true) (k_need_pattern : PySem.W.keepIn K (.ref f_need_pattern) = true)
    {f_matches : Addr} {od_matches an_matches : Option Addr} {sl_matches : Array (Option Value)} {oc_matches kV_matches dc_matches pm_matches cd_matches ct_matches : Value}
    (a_matches : PySem.W.nsIn K mainGlobals "matches" = some (some (.ref f_matches))) (l_matches : K.lookup f_matches = some ⟨oc_matches, od_matches, .func (PySem.W.fnOf "matches" "matches" (defArgs s_matches) (defBody s_matches) (defScope s_matches) .none kV_matches dc_matches pm_matches an_matches cd_matches ct_matches), sl_matches⟩) (c_matches : PySem.W.codeIn K cd_matches "matches" = true) (k_matches : PySem.W.keepIn K (.ref f_matches) = true)
    {f_law_deck : Addr} {od_law_deck an_law_deck : Option Addr} {sl_law_deck : Array (Option Value)} {oc_law_deck kV_law_deck dc_law_deck pm_law_deck cd_law_deck ct_law_deck : Value}
    (a_law_deck : PySem.W.nsIn K mainGlobals "_law_deck" = some (some (.ref f_law_deck))) (l_law_deck : K.lookup f_law_deck = some ⟨oc_law_deck, od_law_deck, .func (PySem.W.fnOf "_law_deck" "_law_deck" (defArgs s_law_deck) (defBody s_law_deck) (defScope s_law_deck) .none kV_law_deck dc_law_deck pm_law_deck an_law_deck cd_law_deck ct_law_deck), sl_law_deck⟩) (c_law_deck : PySem.W.codeIn K cd_law_deck "_law_deck" = true) (k_law_deck : PySem.W.keepIn K (.ref f_law_deck) = true)
    {f_law_draw : Addr} {od_law_draw an_law_draw : Option Addr} {sl_law_draw : Array (Option Value)} {oc_law_draw kV_law_draw dc_law_draw pm_law_draw cd_law_draw ct_law_draw : Value}
    (a_law_draw : PySem.W.nsIn K mainGlobals "_law_draw" = some (some (.ref f_law_draw))) (l_law_draw : K.lookup f_law_draw = some ⟨oc_law_draw, od_law_draw, .func (PySem.W.fnOf "_law_draw" "_law_draw" (defArgs s_law_draw) (defBody s_law_draw) (defScope s_law_draw) .none kV_law_draw dc_law_draw pm_law_draw an_law_draw cd_law_draw ct_law_draw), sl_law_draw⟩) (c_law_draw : PySem.W.codeIn K cd_law_draw "_law_draw" = true) (k_law_draw : PySem.W.keepIn K (.ref f_law_draw) = true)
    {f_law_one_of : Addr} {od_law_one_of an_law_one_of : Option Addr} {sl_law_one_of : Array (Option Value)} {oc_law_one_of kV_law_one_of dc_law_one_of pm_law_one_of cd_law_one_of ct_law_one_of : Value}
    (a_law_one_of : PySem.W.nsIn K mainGlobals "_law_one_of" = some (some (.ref f_law_one_of))) (l_law_one_of : K.lookup f_law_one_of = some ⟨oc_law_one_of, od_law_one_of, .func (PySem.W.fnOf "_law_one_of" "_law_one_of" (defArgs s_law_one_of) (defBody s_law_one_of) (defScope s_law_one_of) .none kV_law_one_of dc_law_one_of pm_law_one_of an_law_one_of cd_law_one_of ct_law_one_of), sl_law_one_of⟩) (c_law_one_of : PySem.W.codeIn K cd_law_one_of "_law_one_of" = true) (k_law_one_of : PySem.W.keepIn K (.ref f_law_one_of) = true)
    {f_law_mixed : Addr} {od_law_mixed an_law_mixed : Option Addr} {sl_law_mixed : Array (Option Value)} {oc_law_mixed kV_law_mixed dc_law_mixed pm_law_mixed cd_law_mixed ct_law_mixed : Value}
    (a_law_mixed : PySem.W.nsIn K mainGlobals "_law_mixed" = some (some (.ref f_law_mixed))) (l_law_mixed : K.lookup f_law_mixed = some ⟨oc_law_mixed, od_law_mixed, .func (PySem.W.fnOf "_law_mixed" "_law_mixed" (defArgs s_law_mixed) (defBody s_law_mixed) (defScope s_law_mixed) .none kV_law_mixed dc_law_mixed pm_law_mixed an_law_mixed cd_law_mixed ct_law_mixed), sl_law_mixed⟩) (c_law_mixed : PySem.W.codeIn K cd_law_mixed "_law_mixed" = true) (k_law_mixed : PySem.W.keepIn K (.ref f_law_mixed) = true)
    {f_law_name : Addr} {od_law_name an_law_name : Option Addr} {sl_law_name : Array (Option Value)} {oc_law_name kV_law_name dc_law_name pm_law_name cd_law_name ct_law_name : Value}
    (a_law_name : PySem.W.nsIn K mainGlobals "_law_name" = some (some (.ref f_law_name))) (l_law_name : K.lookup f_law_name = some ⟨oc_law_name, od_law_name, .func (PySem.W.fnOf "_law_name" "_law_name" (defArgs s_law_name) (defBody s_law_name) (defScope s_law_name) .none kV_law_name dc_law_name pm_law_name an_law_name cd_law_name ct_law_name), sl_law_name⟩) (c_law_name : PySem.W.codeIn K cd_law_name "_law_name" = true) (k_law_name : PySem.W.keepIn K (.ref f_law_name) = true)
    {f_law_path : Addr} {od_law_path an_law_path : Option Addr} {sl_law_path : Array (Option Value)} {oc_law_path kV_law_path dc_law_path pm_law_path cd_law_path ct_law_path : Value}
    (a_law_path : PySem.W.nsIn K mainGlobals "_law_path" = some (some (.ref f_law_path))) (l_law_path : K.lookup f_law_path = some ⟨oc_law_path, od_law_path, .func (PySem.W.fnOf "_law_path" "_law_path" (defArgs s_law_path) (defBody s_law_path) (defScope s_law_path) .none kV_law_path dc_law_path pm_law_path an_law_path cd_law_path ct_law_path), sl_law_path⟩) (c_law_path : PySem.W.codeIn K cd_law_path "_law_path" = true) (k_law_path : PySem.W.keepIn K (.ref f_law_path) = true)
    {f_law_text : Addr} {od_law_text an_law_text : Option Addr} {sl_law_text : Array (Option Value)} {oc_law_text kV_law_text dc_law_text pm_law_text cd_law_text ct_law_text : Value}
    (a_law_text : PySem.W.nsIn K mainGlobals "_law_text" = some (some (.ref f_law_text))) (l_law_text : K.lookup f_law_text = some ⟨oc_law_text, od_law_text, .func (PySem.W.fnOf "_law_text" "_law_text" (defArgs s_law_text) (defBody s_law_text) (defScope s_law_text) .none kV_law_text dc_law_text pm_law_text an_law_text cd_law_text ct_law_text), sl_law_text⟩) (c_law_text : PySem.W.codeIn K cd_law_text "_law_text" = true) (k_law_text : PySem.W.keepIn K (.ref f_law_text) = true)
    {f_law_places : Addr} {od_law_places an_law_places : Option Addr} {sl_law_places : Array (Option Value)} {oc_law_places kV_law_places dc_law_places pm_law_places cd_law_places ct_law_places : Value}
    (a_law_places : PySem.W.nsIn K mainGlobals "_law_places" = some (some (.ref f_law_places))) (l_law_places : K.lookup f_law_places = some ⟨oc_law_places, od_law_places, .func (PySem.W.fnOf "_law_places" "_law_places" (defArgs s_law_places) (defBody s_law_places) (defScope s_law_places) .none kV_law_places dc_law_places pm_law_places an_law_places cd_law_places ct_law_places), sl_law_places⟩) (c_law_places : PySem.W.codeIn K cd_law_places "_law_places" = true) (k_law_places : PySem.W.keepIn K (.ref f_law_places) = true)
    {f_law_store : Addr} {od_law_store an_law_store : Option Addr} {sl_law_store : Array (Option Value)} {oc_law_store kV_law_store dc_law_store pm_law_store cd_law_store ct_law_store : Value}
    (a_law_store : PySem.W.nsIn K mainGlobals "_law_store" = some (some (.ref f_law_store))) (l_law_store : K.lookup f_law_store = some ⟨oc_law_store, od_law_store, .func (PySem.W.fnOf "_law_store" "_law_store" (defArgs s_law_store) (defBody s_law_store) (defScope s_law_store) .none kV_law_store dc_law_store pm_law_store an_law_store cd_law_store ct_law_store), sl_law_store⟩) (c_law_store : PySem.W.codeIn K cd_law_store "_law_store" = true) (k_law_store : PySem.W.keepIn K (.ref f_law_store) = true)
    {f_law_rooms : Addr} {od_law_rooms an_law_rooms : Option Addr} {sl_law_rooms : Array (Option Value)} {oc_law_rooms kV_law_rooms dc_law_rooms pm_law_rooms cd_law_rooms ct_law_rooms : Value}
    (a_law_rooms : PySem.W.nsIn K mainGlobals "_law_rooms" = some (some (.ref f_law_rooms))) (l_law_rooms : K.lookup f_law_rooms = some ⟨oc_law_rooms, od_law_rooms, .func (PySem.W.fnOf "_law_rooms" "_law_rooms" (defArgs s_law_rooms) (defBody s_law_rooms) (defScope s_law_rooms) .none kV_law_rooms dc_law_rooms pm_law_rooms an_law_rooms cd_law_rooms ct_law_rooms), sl_law_rooms⟩) (c_law_rooms : PySem.W.codeIn K cd_law_rooms "_law_rooms" = true) (k_law_rooms : PySem.W.keepIn K (.ref f_law_rooms) = true)
    {f_law_pattern : Addr} {od_law_pattern an_law_pattern : Option Addr} {sl_law_pattern : Array (Option Value)} {oc_law_pattern kV_law_pattern dc_law_pattern pm_law_pattern cd_law_pattern ct_law_pattern : Value}
    (a_law_pattern : PySem.W.nsIn K mainGlobals "_law_pattern" = some (some (.ref f_law_pattern))) (l_law_pattern : K.lookup f_law_pattern = some ⟨oc_law_pattern, od_law_pattern, .func (PySem.W.fnOf "_law_pattern" "_law_pattern" (defArgs s_law_pattern) (defBody s_law_pattern) (defScope s_law_pattern) .none kV_law_pattern dc_law_pattern pm_law_pattern an_law_pattern cd_law_pattern ct_law_pattern), sl_law_pattern⟩) (c_law_pattern : PySem.W.codeIn K cd_law_pattern "_law_pattern" = true) (k_law_pattern : PySem.W.keepIn K (.ref f_law_pattern) = true)
    {f_law_tokens : Addr} {od_law_tokens an_law_tokens : Option Addr} {sl_law_tokens : Array (Option Value)} {oc_law_tokens kV_law_tokens dc_law_tokens pm_law_tokens cd_law_tokens ct_law_tokens : Value}
    (a_law_tokens : PySem.W.nsIn K mainGlobals "_law_tokens" = some (some (.ref f_law_tokens))) (l_law_tokens : K.lookup f_law_tokens = some ⟨oc_law_tokens, od_law_tokens, .func (PySem.W.fnOf "_law_tokens" "_law_tokens" (defArgs s_law_tokens) (defBody s_law_tokens) (defScope s_law_tokens) .none kV_law_tokens dc_law_tokens pm_law_tokens an_law_tokens cd_law_tokens ct_law_tokens), sl_law_tokens⟩) (c_law_tokens : PySem.W.codeIn K cd_law_tokens "_law_tokens" = true) (k_law_tokens : PySem.W.keepIn K (.ref f_law_tokens) = true)
    {f_law_one_fits : Addr} {od_law_one_fits an_law_one_fits : Option Addr} {sl_law_one_fits : Array (Option Value)} {oc_law_one_fits kV_law_one_fits dc_law_one_fits pm_law_one_fits cd_law_one_fits ct_law_one_fits : Value}
    (a_law_one_fits : PySem.W.nsIn K mainGlobals "_law_one_fits" = some (some (.ref f_law_one_fits))) (l_law_one_fits : K.lookup f_law_one_fits = some ⟨oc_law_one_fits, od_law_one_fits, .func (PySem.W.fnOf "_law_one_fits" "_law_one_fits" (defArgs s_law_one_fits) (defBody s_law_one_fits) (defScope s_law_one_fits) .none kV_law_one_fits dc_law_one_fits pm_law_one_fits an_law_one_fits cd_law_one_fits ct_law_one_fits), sl_law_one_fits⟩) (c_law_one_fits : PySem.W.codeIn K cd_law_one_fits "_law_one_fits" = true) (k_law_one_fits : PySem.W.keepIn K (.ref f_law_one_fits) = true)
    {f_law_fits : Addr} {od_law_fits an_law_fits : Option Addr} {sl_law_fits : Array (Option Value)} {oc_law_fits kV_law_fits dc_law_fits pm_law_fits cd_law_fits ct_law_fits : Value}
    (a_law_fits : PySem.W.nsIn K mainGlobals "_law_fits" = some (some (.ref f_law_fits))) (l_law_fits : K.lookup f_law_fits = some ⟨oc_law_fits, od_law_fits, .func (PySem.W.fnOf "_law_fits" "_law_fits" (defArgs s_law_fits) (defBody s_law_fits) (defScope s_law_fits) .none kV_law_fits dc_law_fits pm_law_fits an_law_fits cd_law_fits ct_law_fits), sl_law_fits⟩) (c_law_fits : PySem.W.codeIn K cd_law_fits "_law_fits" = true) (k_law_fits : PySem.W.keepIn K (.ref f_law_fits) = true)
    {f_law_word : Addr} {od_law_word an_law_word : Option Addr} {sl_law_word : Array (Option Value)} {oc_law_word kV_law_word dc_law_word pm_law_word cd_law_word ct_law_word : Value}
    (a_law_word : PySem.W.nsIn K mainGlobals "_law_word" = some (some (.ref f_law_word))) (l_law_word : K.lookup f_law_word = some ⟨oc_law_word, od_law_word, .func (PySem.W.fnOf "_law_word" "_law_word" (defArgs s_law_word) (defBody s_law_word) (defScope s_law_word) .none kV_law_word dc_law_word pm_law_word an_law_word cd_law_word ct_law_word), sl_law_word⟩) (c_law_word : PySem.W.codeIn K cd_law_word "_law_word" = true) (k_law_word : PySem.W.keepIn K (.ref f_law_word) = true)
    {f_law_right : Addr} {od_law_right an_law_right : Option Addr} {sl_law_right : Array (Option Value)} {oc_law_right kV_law_right dc_law_right pm_law_right cd_law_right ct_law_right : Value}
    (a_law_right : PySem.W.nsIn K mainGlobals "_law_right" = some (some (.ref f_law_right))) (l_law_right : K.lookup f_law_right = some ⟨oc_law_right, od_law_right, .func (PySem.W.fnOf "_law_right" "_law_right" (defArgs s_law_right) (defBody s_law_right) (defScope s_law_right) .none kV_law_right dc_law_right pm_law_right an_law_right cd_law_right ct_law_right), sl_law_right⟩) (c_law_right : PySem.W.codeIn K cd_law_right "_law_right" = true) (k_law_right : PySem.W.keepIn K (.ref f_law_right) = true)
    {f_law : Addr} {od_law an_law : Option Addr} {sl_law : Array (Option Value)} {oc_law kV_law dc_law pm_law cd_law ct_law : Value}
    (a_law : PySem.W.nsIn K mainGlobals "law" = some (some (.ref f_law))) (l_law : K.lookup f_law = some ⟨oc_law, od_law, .func (PySem.W.fnOf "law" "law" (defArgs s_law) (defBody s_law) (defScope s_law) .none kV_law dc_law pm_law an_law cd_law ct_law), sl_law⟩) (c_law : PySem.W.codeIn K cd_law "law" = true) (k_law : PySem.W.keepIn K (.ref f_law) = true)
    (z_all : PySem.W.nsIn K mainGlobals "all" = some none)
    (z_any : PySem.W.nsIn K mainGlobals "any" = some none)
    (z_bool : PySem.W.nsIn K mainGlobals "bool" = some none)
    (z_int : PySem.W.nsIn K mainGlobals "int" = some none)
    (z_isinstance : PySem.W.nsIn K mainGlobals "isinstance" = some none)
    (z_len : PySem.W.nsIn K mainGlobals "len" = some none)
    (z_list : PySem.W.nsIn K mainGlobals "list" = some none)
    (z_max : PySem.W.nsIn K mainGlobals "max" = some none)
    (z_min : PySem.W.nsIn K mainGlobals "min" = some none)
    (z_range : PySem.W.nsIn K mainGlobals "range" = some none)
    (z_sorted : PySem.W.nsIn K mainGlobals "sorted" = some none)
    (z_str : PySem.W.nsIn K mainGlobals "str" = some none)
    (z_tuple : PySem.W.nsIn K mainGlobals "tuple" = some none)
    (z_zip : PySem.W.nsIn K mainGlobals "zip" = some none)
    {C_InvalidStore C_InvalidRoom C_InvalidPattern : Addr}
    (g_InvalidStore : PySem.W.nsIn K mainGlobals "InvalidStore" = some (some (.ref C_InvalidStore))) (x_InvalidStore : PySem.W.excIn K C_InvalidStore [.type "ValueError", .type "Exception", .type "BaseException", .type "object"] "ValueError.__new__" = true) (kk_InvalidStore : PySem.W.keepIn K (.ref C_InvalidStore) = true) (bb_InvalidStore : PySem.W.subIn K (.ref C_InvalidStore) (.type "BaseException") = some true) (tt_InvalidStore : PySem.W.typeIn K (.ref C_InvalidStore) = some (.type "type")) (ii_InvalidStore : PySem.W.isClsIn K C_InvalidStore = true)
    (g_InvalidRoom : PySem.W.nsIn K mainGlobals "InvalidRoom" = some (some (.ref C_InvalidRoom))) (x_InvalidRoom : PySem.W.excIn K C_InvalidRoom [.type "ValueError", .type "Exception", .type "BaseException", .type "object"] "ValueError.__new__" = true) (kk_InvalidRoom : PySem.W.keepIn K (.ref C_InvalidRoom) = true) (bb_InvalidRoom : PySem.W.subIn K (.ref C_InvalidRoom) (.type "BaseException") = some true) (tt_InvalidRoom : PySem.W.typeIn K (.ref C_InvalidRoom) = some (.type "type")) (ii_InvalidRoom : PySem.W.isClsIn K C_InvalidRoom = true)
    (g_InvalidPattern : PySem.W.nsIn K mainGlobals "InvalidPattern" = some (some (.ref C_InvalidPattern))) (x_InvalidPattern : PySem.W.excIn K C_InvalidPattern [.type "ValueError", .type "Exception", .type "BaseException", .type "object"] "ValueError.__new__" = true) (kk_InvalidPattern : PySem.W.keepIn K (.ref C_InvalidPattern) = true) (bb_InvalidPattern : PySem.W.subIn K (.ref C_InvalidPattern) (.type "BaseException") = some true) (tt_InvalidPattern : PySem.W.typeIn K (.ref C_InvalidPattern) = some (.type "type")) (ii_InvalidPattern : PySem.W.isClsIn K C_InvalidPattern = true)
    (s_InvalidStore_InvalidStore : PySem.W.subIn K (.ref C_InvalidStore) (.ref C_InvalidStore) = some true)
    (s_InvalidStore_InvalidRoom : PySem.W.subIn K (.ref C_InvalidStore) (.ref C_InvalidRoom) = some false)
    (s_InvalidStore_InvalidPattern : PySem.W.subIn K (.ref C_InvalidStore) (.ref C_InvalidPattern) = some false)
    (s_InvalidRoom_InvalidStore : PySem.W.subIn K (.ref C_InvalidRoom) (.ref C_InvalidStore) = some false)
    (s_InvalidRoom_InvalidRoom : PySem.W.subIn K (.ref C_InvalidRoom) (.ref C_InvalidRoom) = some true)
    (s_InvalidRoom_InvalidPattern : PySem.W.subIn K (.ref C_InvalidRoom) (.ref C_InvalidPattern) = some false)
    (s_InvalidPattern_InvalidStore : PySem.W.subIn K (.ref C_InvalidPattern) (.ref C_InvalidStore) = some false)
    (s_InvalidPattern_InvalidRoom : PySem.W.subIn K (.ref C_InvalidPattern) (.ref C_InvalidRoom) = some false)
    (s_InvalidPattern_InvalidPattern : PySem.W.subIn K (.ref C_InvalidPattern) (.ref C_InvalidPattern) = some true)
    : Txt P K mg where
  c_MOST_PATTERN := ⟨_, PySem.W.mg_of X G h_MOST_PATTERN, r_MOST_PATTERN⟩
  c_ANY := ⟨_, PySem.W.mg_of X G h_ANY, r_ANY⟩
  c_ONE := ⟨_, PySem.W.mg_of X G h_ONE, r_ONE⟩
  c_SIGN_patterns := ⟨_, PySem.W.mg_of X G h_SIGN_patterns, r_SIGN_patterns⟩
  c_SET := ⟨_, PySem.W.mg_of X G h_SET, r_SET⟩
  c_NO_ITEMS := ⟨_, PySem.W.mg_of X G h_NO_ITEMS, r_NO_ITEMS⟩
  c_FILE := ⟨_, PySem.W.mg_of X G h_FILE, r_FILE⟩
  c_ROOM := ⟨_, PySem.W.mg_of X G h_ROOM, r_ROOM⟩
  c_SIGN_storeways := ⟨_, PySem.W.mg_of X G h_SIGN_storeways, r_SIGN_storeways⟩
  c_HERE := ⟨_, PySem.W.mg_of X G h_HERE, r_HERE⟩
  c_ABOVE := ⟨_, PySem.W.mg_of X G h_ABOVE, r_ABOVE⟩
  c_ROOT := ⟨_, PySem.W.mg_of X G h_ROOT, r_ROOT⟩
  c_MOST_NODES := ⟨_, PySem.W.mg_of X G h_MOST_NODES, r_MOST_NODES⟩
  c_MOST_TEXT := ⟨_, PySem.W.mg_of X G h_MOST_TEXT, r_MOST_TEXT⟩
  c_MOST_PATH := ⟨_, PySem.W.mg_of X G h_MOST_PATH, r_MOST_PATH⟩
  c_MOST_NAME := ⟨_, PySem.W.mg_of X G h_MOST_NAME, r_MOST_NAME⟩
  c_NAME_SIGNS := ⟨_, PySem.W.mg_of X G h_NAME_SIGNS, r_NAME_SIGNS⟩
  d_items_of := .mk (st := s_items_of) l_items_of c_items_of k_items_of (PySem.W.mg_of X G a_items_of) (fun _ _ _ _ _ _ us hl => match us, hl with | [_], _ => rfl)
  d_set_at := .mk (st := s_set_at) l_set_at c_set_at k_set_at (PySem.W.mg_of X G a_set_at) (fun _ _ _ _ _ _ us hl => match us, hl with | [_, _], _ => rfl)
  d_tokens_of := .mk (st := s_tokens_of) l_tokens_of c_tokens_of k_tokens_of (PySem.W.mg_of X G a_tokens_of) (fun _ _ _ _ _ _ us hl => match us, hl with | [_], _ => rfl)
  d_is_a_pattern := .mk (st := s_is_a_pattern) l_is_a_pattern c_is_a_pattern k_is_a_pattern (PySem.W.mg_of X G a_is_a_pattern) (fun _ _ _ _ _ _ us hl => match us, hl with | [_], _ => rfl)
  d_token_fits := .mk (st := s_token_fits) l_token_fits c_token_fits k_token_fits (PySem.W.mg_of X G a_token_fits) (fun _ _ _ _ _ _ us hl => match us, hl with | [_, _], _ => rfl)
  d_with_skips := .mk (st := s_with_skips) l_with_skips c_with_skips k_with_skips (PySem.W.mg_of X G a_with_skips) (fun _ _ _ _ _ _ us hl => match us, hl with | [_, _], _ => rfl)
  d_is_fitting := .mk (st := s_is_fitting) l_is_fitting c_is_fitting k_is_fitting (PySem.W.mg_of X G a_is_fitting) (fun _ _ _ _ _ _ us hl => match us, hl with | [_, _], _ => rfl)
  d_is_whole := .mk (st := s_is_whole) l_is_whole c_is_whole k_is_whole (PySem.W.mg_of X G a_is_whole) (fun _ _ _ _ _ _ us hl => match us, hl with | [_], _ => rfl)
  d_is_plain := .mk (st := s_is_plain) l_is_plain c_is_plain k_is_plain (PySem.W.mg_of X G a_is_plain) (fun _ _ _ _ _ _ us hl => match us, hl with | [_], _ => rfl)
  d_is_text := .mk (st := s_is_text) l_is_text c_is_text k_is_text (PySem.W.mg_of X G a_is_text) (fun _ _ _ _ _ _ us hl => match us, hl with | [_], _ => rfl)
  d_is_entry_name := .mk (st := s_is_entry_name) l_is_entry_name c_is_entry_name k_is_entry_name (PySem.W.mg_of X G a_is_entry_name) (fun _ _ _ _ _ _ us hl => match us, hl with | [_], _ => rfl)
  d_is_a_path := .mk (st := s_is_a_path) l_is_a_path c_is_a_path k_is_a_path (PySem.W.mg_of X G a_is_a_path) (fun _ _ _ _ _ _ us hl => match us, hl with | [_], _ => rfl)
  d_are_entries := .mk (st := s_are_entries) l_are_entries c_are_entries k_are_entries (PySem.W.mg_of X G a_are_entries) (fun _ _ _ _ _ _ us hl => match us, hl with | [_, _], _ => rfl)
  d_is_node := .mk (st := s_is_node) l_is_node c_is_node k_is_node (PySem.W.mg_of X G a_is_node) (fun _ _ _ _ _ _ us hl => match us, hl with | [_, _], _ => rfl)
  d_hangs_together := .mk (st := s_hangs_together) l_hangs_together c_hangs_together k_hangs_together (PySem.W.mg_of X G a_hangs_together) (fun _ _ _ _ _ _ us hl => match us, hl with | [_], _ => rfl)
  d_is_a_store := .mk (st := s_is_a_store) l_is_a_store c_is_a_store k_is_a_store (PySem.W.mg_of X G a_is_a_store) (fun _ _ _ _ _ _ us hl => match us, hl with | [_], _ => rfl)
  d_is_room := .mk (st := s_is_room) l_is_room c_is_room k_is_room (PySem.W.mg_of X G a_is_room) (fun _ _ _ _ _ _ us hl => match us, hl with | [_, _], _ => rfl)
  d_need_store := .mk (st := s_need_store) l_need_store c_need_store k_need_store (PySem.W.mg_of X G a_need_store) (fun _ _ _ _ _ _ us hl => match us, hl with | [_], _ => rfl)
  d_need_room := .mk (st := s_need_room) l_need_room c_need_room k_need_room (PySem.W.mg_of X G a_need_room) (fun _ _ _ _ _ _ us hl => match us, hl with | [_, _], _ => rfl)
  d_entry_names := .mk (st := s_entry_names) l_entry_names c_entry_names k_entry_names (PySem.W.mg_of X G a_entry_names) (fun _ _ _ _ _ _ us hl => match us, hl with | [_, _], _ => rfl)
  d_need_pattern := .mk (st := s_need_pattern) l_need_pattern c_need_pattern k_need_pattern (PySem.W.mg_of X G a_need_pattern) (fun _ _ _ _ _ _ us hl => match us, hl with | [_], _ => rfl)
  d_matches := .mk (st := s_matches) l_matches c_matches k_matches (PySem.W.mg_of X G a_matches) (fun _ _ _ _ _ _ us hl => match us, hl with | [_, _, _], _ => rfl)
  d_law_deck := .mk (st := s_law_deck) l_law_deck c_law_deck k_law_deck (PySem.W.mg_of X G a_law_deck) (fun _ _ _ _ _ _ us hl => match us, hl with | [_, _], _ => rfl)
  d_law_draw := .mk (st := s_law_draw) l_law_draw c_law_draw k_law_draw (PySem.W.mg_of X G a_law_draw) (fun _ _ _ _ _ _ us hl => match us, hl with | [_, _], _ => rfl)
  d_law_one_of := .mk (st := s_law_one_of) l_law_one_of c_law_one_of k_law_one_of (PySem.W.mg_of X G a_law_one_of) (fun _ _ _ _ _ _ us hl => match us, hl with | [_, _], _ => rfl)
  d_law_mixed := .mk (st := s_law_mixed) l_law_mixed c_law_mixed k_law_mixed (PySem.W.mg_of X G a_law_mixed) (fun _ _ _ _ _ _ us hl => match us, hl with | [_, _], _ => rfl)
  d_law_name := .mk (st := s_law_name) l_law_name c_law_name k_law_name (PySem.W.mg_of X G a_law_name) (fun _ _ _ _ _ _ us hl => match us, hl with | [_], _ => rfl)
  d_law_path := .mk (st := s_law_path) l_law_path c_law_path k_law_path (PySem.W.mg_of X G a_law_path) (fun _ _ _ _ _ _ us hl => match us, hl with | [_, _], _ => rfl)
  d_law_text := .mk (st := s_law_text) l_law_text c_law_text k_law_text (PySem.W.mg_of X G a_law_text) (fun _ _ _ _ _ _ us hl => match us, hl with | [_], _ => rfl)
  d_law_places := .mk (st := s_law_places) l_law_places c_law_places k_law_places (PySem.W.mg_of X G a_law_places) (fun _ _ _ _ _ _ us hl => match us, hl with | [_, _], _ => rfl)
  d_law_store := .mk (st := s_law_store) l_law_store c_law_store k_law_store (PySem.W.mg_of X G a_law_store) (fun _ _ _ _ _ _ us hl => match us, hl with | [_, _], _ => rfl)
  d_law_rooms := .mk (st := s_law_rooms) l_law_rooms c_law_rooms k_law_rooms (PySem.W.mg_of X G a_law_rooms) (fun _ _ _ _ _ _ us hl => match us, hl with | [_], _ => rfl)
  d_law_pattern := .mk (st := s_law_pattern) l_law_pattern c_law_pattern k_law_pattern (PySem.W.mg_of X G a_law_pattern) (fun _ _ _ _ _ _ us hl => match us, hl with | [_, _], _ => rfl)
  d_law_tokens := .mk (st := s_law_tokens) l_law_tokens c_law_tokens k_law_tokens (PySem.W.mg_of X G a_law_tokens) (fun _ _ _ _ _ _ us hl => match us, hl with | [_], _ => rfl)
  d_law_one_fits := .mk (st := s_law_one_fits) l_law_one_fits c_law_one_fits k_law_one_fits (PySem.W.mg_of X G a_law_one_fits) (fun _ _ _ _ _ _ us hl => match us, hl with | [_, _], _ => rfl)
  d_law_fits := .mk (st := s_law_fits) l_law_fits c_law_fits k_law_fits (PySem.W.mg_of X G a_law_fits) (fun _ _ _ _ _ _ us hl => match us, hl with | [_, _], _ => rfl)
  d_law_word := .mk (st := s_law_word) l_law_word c_law_word k_law_word (PySem.W.mg_of X G a_law_word) (fun _ _ _ _ _ _ us hl => match us, hl with | [_, _, _], _ => rfl)
  d_law_right := .mk (st := s_law_right) l_law_right c_law_right k_law_right (PySem.W.mg_of X G a_law_right) (fun _ _ _ _ _ _ us hl => match us, hl with | [_], _ => rfl)
  d_law := .mk (st := s_law) l_law c_law k_law (PySem.W.mg_of X G a_law) (fun _ _ _ _ _ _ us hl => match us, hl with | [_], _ => rfl)
  b_all := PySem.W.mg_none_of X G z_all
  b_any := PySem.W.mg_none_of X G z_any
  b_bool := PySem.W.mg_none_of X G z_bool
  b_int := PySem.W.mg_none_of X G z_int
  b_isinstance := PySem.W.mg_none_of X G z_isinstance
  b_len := PySem.W.mg_none_of X G z_len
  b_list := PySem.W.mg_none_of X G z_list
  b_max := PySem.W.mg_none_of X G z_max
  b_min := PySem.W.mg_none_of X G z_min
  b_range := PySem.W.mg_none_of X G z_range
  b_sorted := PySem.W.mg_none_of X G z_sorted
  b_str := PySem.W.mg_none_of X G z_str
  b_tuple := PySem.W.mg_none_of X G z_tuple
  b_zip := PySem.W.mg_none_of X G z_zip
  e_InvalidStore := ⟨C_InvalidStore, PySem.W.mg_of X G g_InvalidStore, x_InvalidStore, kk_InvalidStore, bb_InvalidStore, tt_InvalidStore, ii_InvalidStore⟩
  e_InvalidRoom := ⟨C_InvalidRoom, PySem.W.mg_of X G g_InvalidRoom, x_InvalidRoom, kk_InvalidRoom, bb_InvalidRoom, tt_InvalidRoom, ii_InvalidRoom⟩
  e_InvalidPattern := ⟨C_InvalidPattern, PySem.W.mg_of X G g_InvalidPattern, x_InvalidPattern, kk_InvalidPattern, bb_InvalidPattern, tt_InvalidPattern, ii_InvalidPattern⟩
  m_InvalidStore_InvalidStore := fun C D h1 h2 => by
    cases (PySem.W.mg_of X G g_InvalidStore).symm.trans h1
    cases (PySem.W.mg_of X G g_InvalidStore).symm.trans h2
    exact s_InvalidStore_InvalidStore
  m_InvalidStore_InvalidRoom := fun C D h1 h2 => by
    cases (PySem.W.mg_of X G g_InvalidStore).symm.trans h1
    cases (PySem.W.mg_of X G g_InvalidRoom).symm.trans h2
    exact s_InvalidStore_InvalidRoom
  m_InvalidStore_InvalidPattern := fun C D h1 h2 => by
    cases (PySem.W.mg_of X G g_InvalidStore).symm.trans h1
    cases (PySem.W.mg_of X G g_InvalidPattern).symm.trans h2
    exact s_InvalidStore_InvalidPattern
  m_InvalidRoom_InvalidStore := fun C D h1 h2 => by
    cases (PySem.W.mg_of X G g_InvalidRoom).symm.trans h1
    cases (PySem.W.mg_of X G g_InvalidStore).symm.trans h2
    exact s_InvalidRoom_InvalidStore
  m_InvalidRoom_InvalidRoom := fun C D h1 h2 => by
    cases (PySem.W.mg_of X G g_InvalidRoom).symm.trans h1
    cases (PySem.W.mg_of X G g_InvalidRoom).symm.trans h2
    exact s_InvalidRoom_InvalidRoom
  m_InvalidRoom_InvalidPattern := fun C D h1 h2 => by
    cases (PySem.W.mg_of X G g_InvalidRoom).symm.trans h1
    cases (PySem.W.mg_of X G g_InvalidPattern).symm.trans h2
    exact s_InvalidRoom_InvalidPattern
  m_InvalidPattern_InvalidStore := fun C D h1 h2 => by
    cases (PySem.W.mg_of X G g_InvalidPattern).symm.trans h1
    cases (PySem.W.mg_of X G g_InvalidStore).symm.trans h2
    exact s_InvalidPattern_InvalidStore
  m_InvalidPattern_InvalidRoom := fun C D h1 h2 => by
    cases (PySem.W.mg_of X G g_InvalidPattern).symm.trans h1
    cases (PySem.W.mg_of X G g_InvalidRoom).symm.trans h2
    exact s_InvalidPattern_InvalidRoom
  m_InvalidPattern_InvalidPattern := fun C D h1 h2 => by
    cases (PySem.W.mg_of X G g_InvalidPattern).symm.trans h1
    cases (PySem.W.mg_of X G g_InvalidPattern).symm.trans h2
    exact s_InvalidPattern_InvalidPattern
theorem walk {l : PySem.W.OpenLaw} {q : Program} {loose : List Str} {XP : (Str → Option Value) → Heap → Prop} {YP : World → Heap → Prop} {d : DefRec} {K : Params → PySem.W.Frag} (hn : l.most = some 63) (hdf : d.params.defaults = []) (hdn : d.name = "law")
    (hY : ∀ (w : World) (h : Heap), YP w h → (K w.params).In h) (F : ∀ (w : World) (mg : Str → Option Value) (h : Heap), (K w.params).In h → h.Ns mainGlobals mg → Txt l.prog (K w.params) mg) :
    PySem.W.WalkO q loose XP YP l.row.toRowW d [] (fun f vs => PySem.call f vs) := by
  refine walk_keeps (n := 63) (k := 9) (x := "script") (sp := fun w => sp1 (Φ_law (K w.params))) hn (by decide) hdf ⟨rfl, by decide, by decide⟩ hY ?_ ?_
  · intro w mg fa h KX G hmg
    have T := F w mg h KX G
    obtain ⟨f, fd, F1, hm, B, KB⟩ := T.d_law
    rw [hdn] at hmg
    obtain rfl : f = fa := Value.ref.inj (Option.some.inj (hm.symm.trans hmg))
    exact ⟨fd, fun s u => KB s [u] rfl, fun base _ _ => ok_law T F1⟩
  · intro w H a ns hl hS
    exact ⟨_, rfl, a, ns, rfl, hS, hl, fun _ => rfl⟩
end Mine
open PySem PySem.W PyProof.Rows
set_option maxRecDepth 100000 in
set_option maxHeartbeats 0 in
theorem PySem.Challenge.cw_wireshell_k27_names_in_rooms_that_fit_holds : PySem.Challenge.rw_wireshell_k27_names_in_rooms_that_fit.Holds := by
  w_on; o_law; k_head; (case hw => w_witness2)
  k_fill
  refine Mine.walk (l := PySem.Challenge.rw_wireshell_k27_names_in_rooms_that_fit) rfl rfl rfl (fun w h Y => PySem.W.kIn_of Y) ?F
  case F =>
    intro w mg h KX G
    refine' Mine.all_mk KX G ?h_MOST_PATTERN ?r_MOST_PATTERN ?h_ANY ?r_ANY ?h_ONE ?r_ONE ?h_SIGN_patterns ?r_SIGN_patterns ?h_SET ?r_SET ?h_NO_ITEMS ?r_NO_ITEMS ?h_FILE ?r_FILE ?h_ROOM ?r_ROOM ?h_SIGN_storeways ?r_SIGN_storeways ?h_HERE ?r_HERE ?h_ABOVE ?r_ABOVE ?h_ROOT ?r_ROOT ?h_MOST_NODES ?r_MOST_NODES ?h_MOST_TEXT ?r_MOST_TEXT ?h_MOST_PATH ?r_MOST_PATH ?h_MOST_NAME ?r_MOST_NAME ?h_NAME_SIGNS ?r_NAME_SIGNS ?a_items_of ?l_items_of ?c_items_of ?k_items_of ?a_set_at ?l_set_at ?c_set_at ?k_set_at ?a_tokens_of ?l_tokens_of ?c_tokens_of ?k_tokens_of ?a_is_a_pattern ?l_is_a_pattern ?c_is_a_pattern ?k_is_a_pattern ?a_token_fits ?l_token_fits ?c_token_fits ?k_token_fits ?a_with_skips ?l_with_skips ?c_with_skips ?k_with_skips ?a_is_fitting ?l_is_fitting ?c_is_fitting ?k_is_fitting ?a_is_whole ?l_is_whole ?c_is_whole ?k_is_whole ?a_is_plain ?l_is_plain ?c_is_plain ?k_is_plain ?a_is_text ?l_is_text ?c_is_text ?k_is_text ?a_is_entry_name ?l_is_entry_name ?c_is_entry_name ?k_is_entry_name ?a_is_a_path ?l_is_a_path ?c_is_a_path ?k_is_a_path ?a_are_entries ?l_are_entries ?c_are_entries ?k_are_entries ?a_is_node ?l_is_node ?c_is_node ?k_is_node ?a_hangs_together ?l_hangs_together ?c_hangs_together ?k_hangs_together ?a_is_a_store ?l_is_a_store ?c_is_a_store ?k_is_a_store ?a_is_room ?l_is_room ?c_is_room ?k_is_room ?a_need_store ?l_need_store ?c_need_store ?k_need_store ?a_need_room ?l_need_room ?c_need_room ?k_need_room ?a_entry_names ?l_entry_names ?c_entry_names ?k_entry_names ?a_need_pattern ?l_need_pattern ?c_need_pattern ?k_need_pattern ?a_matches ?l_matches ?c_matches ?k_matches ?a_law_deck ?l_law_deck ?c_law_deck ?k_law_deck ?a_law_draw ?l_law_draw ?c_law_draw ?k_law_draw ?a_law_one_of ?l_law_one_of ?c_law_one_of ?k_law_one_of ?a_law_mixed ?l_law_mixed ?c_law_mixed ?k_law_mixed ?a_law_name ?l_law_name ?c_law_name ?k_law_name ?a_law_path ?l_law_path ?c_law_path ?k_law_path ?a_law_text ?l_law_text ?c_law_text ?k_law_text ?a_law_places ?l_law_places ?c_law_places ?k_law_places ?a_law_store ?l_law_store ?c_law_store ?k_law_store ?a_law_rooms ?l_law_rooms ?c_law_rooms ?k_law_rooms ?a_law_pattern ?l_law_pattern ?c_law_pattern ?k_law_pattern ?a_law_tokens ?l_law_tokens ?c_law_tokens ?k_law_tokens ?a_law_one_fits ?l_law_one_fits ?c_law_one_fits ?k_law_one_fits ?a_law_fits ?l_law_fits ?c_law_fits ?k_law_fits ?a_law_word ?l_law_word ?c_law_word ?k_law_word ?a_law_right ?l_law_right ?c_law_right ?k_law_right ?a_law ?l_law ?c_law ?k_law ?z_all ?z_any ?z_bool ?z_int ?z_isinstance ?z_len ?z_list ?z_max ?z_min ?z_range ?z_sorted ?z_str ?z_tuple ?z_zip ?g_InvalidStore ?x_InvalidStore ?kk_InvalidStore ?bb_InvalidStore ?tt_InvalidStore ?ii_InvalidStore ?g_InvalidRoom ?x_InvalidRoom ?kk_InvalidRoom ?bb_InvalidRoom ?tt_InvalidRoom ?ii_InvalidRoom ?g_InvalidPattern ?x_InvalidPattern ?kk_InvalidPattern ?bb_InvalidPattern ?tt_InvalidPattern ?ii_InvalidPattern ?s_InvalidStore_InvalidStore ?s_InvalidStore_InvalidRoom ?s_InvalidStore_InvalidPattern ?s_InvalidRoom_InvalidStore ?s_InvalidRoom_InvalidRoom ?s_InvalidRoom_InvalidPattern ?s_InvalidPattern_InvalidStore ?s_InvalidPattern_InvalidRoom ?s_InvalidPattern_InvalidPattern
    (case h_MOST_PATTERN => k_is); (case r_MOST_PATTERN => exact ⟨_, rfl⟩)
    (case h_ANY => k_is); (case r_ANY => exact ⟨_, rfl⟩)
    (case h_ONE => k_is); (case r_ONE => exact ⟨_, rfl⟩)
    (case h_SIGN_patterns => k_is); (case r_SIGN_patterns => exact ⟨_, rfl⟩)
    (case h_SET => k_is); (case r_SET => exact ⟨_, rfl⟩)
    (case h_NO_ITEMS => k_is); (case r_NO_ITEMS => exact ⟨_, rfl⟩)
    (case h_FILE => k_is); (case r_FILE => exact ⟨_, rfl⟩)
    (case h_ROOM => k_is); (case r_ROOM => exact ⟨_, rfl⟩)
    (case h_SIGN_storeways => k_is); (case r_SIGN_storeways => exact ⟨_, rfl⟩)
    (case h_HERE => k_is); (case r_HERE => exact ⟨_, rfl⟩)
    (case h_ABOVE => k_is); (case r_ABOVE => exact ⟨_, rfl⟩)
    (case h_ROOT => k_is); (case r_ROOT => exact ⟨_, rfl⟩)
    (case h_MOST_NODES => k_is); (case r_MOST_NODES => exact ⟨_, rfl⟩)
    (case h_MOST_TEXT => k_is); (case r_MOST_TEXT => exact ⟨_, rfl⟩)
    (case h_MOST_PATH => k_is); (case r_MOST_PATH => exact ⟨_, rfl⟩)
    (case h_MOST_NAME => k_is); (case r_MOST_NAME => exact ⟨_, rfl⟩)
    (case h_NAME_SIGNS => k_is); (case r_NAME_SIGNS => exact ⟨_, rfl⟩)
    (case a_items_of => k_is); (case l_items_of => k_is); (case c_items_of => k_is); (case k_items_of => k_is)
    (case a_set_at => k_is); (case l_set_at => k_is); (case c_set_at => k_is); (case k_set_at => k_is)
    (case a_tokens_of => k_is); (case l_tokens_of => k_is); (case c_tokens_of => k_is); (case k_tokens_of => k_is)
    (case a_is_a_pattern => k_is); (case l_is_a_pattern => k_is); (case c_is_a_pattern => k_is); (case k_is_a_pattern => k_is)
    (case a_token_fits => k_is); (case l_token_fits => k_is); (case c_token_fits => k_is); (case k_token_fits => k_is)
    (case a_with_skips => k_is); (case l_with_skips => k_is); (case c_with_skips => k_is); (case k_with_skips => k_is)
    (case a_is_fitting => k_is); (case l_is_fitting => k_is); (case c_is_fitting => k_is); (case k_is_fitting => k_is)
    (case a_is_whole => k_is); (case l_is_whole => k_is); (case c_is_whole => k_is); (case k_is_whole => k_is)
    (case a_is_plain => k_is); (case l_is_plain => k_is); (case c_is_plain => k_is); (case k_is_plain => k_is)
    (case a_is_text => k_is); (case l_is_text => k_is); (case c_is_text => k_is); (case k_is_text => k_is)
    (case a_is_entry_name => k_is); (case l_is_entry_name => k_is); (case c_is_entry_name => k_is); (case k_is_entry_name => k_is)
    (case a_is_a_path => k_is); (case l_is_a_path => k_is); (case c_is_a_path => k_is); (case k_is_a_path => k_is)
    (case a_are_entries => k_is); (case l_are_entries => k_is); (case c_are_entries => k_is); (case k_are_entries => k_is)
    (case a_is_node => k_is); (case l_is_node => k_is); (case c_is_node => k_is); (case k_is_node => k_is)
    (case a_hangs_together => k_is); (case l_hangs_together => k_is); (case c_hangs_together => k_is); (case k_hangs_together => k_is)
    (case a_is_a_store => k_is); (case l_is_a_store => k_is); (case c_is_a_store => k_is); (case k_is_a_store => k_is)
    (case a_is_room => k_is); (case l_is_room => k_is); (case c_is_room => k_is); (case k_is_room => k_is)
    (case a_need_store => k_is); (case l_need_store => k_is); (case c_need_store => k_is); (case k_need_store => k_is)
    (case a_need_room => k_is); (case l_need_room => k_is); (case c_need_room => k_is); (case k_need_room => k_is)
    (case a_entry_names => k_is); (case l_entry_names => k_is); (case c_entry_names => k_is); (case k_entry_names => k_is)
    (case a_need_pattern => k_is); (case l_need_pattern => k_is); (case c_need_pattern => k_is); (case k_need_pattern => k_is)
    (case a_matches => k_is); (case l_matches => k_is); (case c_matches => k_is); (case k_matches => k_is)
    (case a_law_deck => k_is); (case l_law_deck => k_is); (case c_law_deck => k_is); (case k_law_deck => k_is)
    (case a_law_draw => k_is); (case l_law_draw => k_is); (case c_law_draw => k_is); (case k_law_draw => k_is)
    (case a_law_one_of => k_is); (case l_law_one_of => k_is); (case c_law_one_of => k_is); (case k_law_one_of => k_is)
    (case a_law_mixed => k_is); (case l_law_mixed => k_is); (case c_law_mixed => k_is); (case k_law_mixed => k_is)
    (case a_law_name => k_is); (case l_law_name => k_is); (case c_law_name => k_is); (case k_law_name => k_is)
    (case a_law_path => k_is); (case l_law_path => k_is); (case c_law_path => k_is); (case k_law_path => k_is)
    (case a_law_text => k_is); (case l_law_text => k_is); (case c_law_text => k_is); (case k_law_text => k_is)
    (case a_law_places => k_is); (case l_law_places => k_is); (case c_law_places => k_is); (case k_law_places => k_is)
    (case a_law_store => k_is); (case l_law_store => k_is); (case c_law_store => k_is); (case k_law_store => k_is)
    (case a_law_rooms => k_is); (case l_law_rooms => k_is); (case c_law_rooms => k_is); (case k_law_rooms => k_is)
    (case a_law_pattern => k_is); (case l_law_pattern => k_is); (case c_law_pattern => k_is); (case k_law_pattern => k_is)
    (case a_law_tokens => k_is); (case l_law_tokens => k_is); (case c_law_tokens => k_is); (case k_law_tokens => k_is)
    (case a_law_one_fits => k_is); (case l_law_one_fits => k_is); (case c_law_one_fits => k_is); (case k_law_one_fits => k_is)
    (case a_law_fits => k_is); (case l_law_fits => k_is); (case c_law_fits => k_is); (case k_law_fits => k_is)
    (case a_law_word => k_is); (case l_law_word => k_is); (case c_law_word => k_is); (case k_law_word => k_is)
    (case a_law_right => k_is); (case l_law_right => k_is); (case c_law_right => k_is); (case k_law_right => k_is)
    (case a_law => k_is); (case l_law => k_is); (case c_law => k_is); (case k_law => k_is)
    (case z_all => k_is)
    (case z_any => k_is)
    (case z_bool => k_is)
    (case z_int => k_is)
    (case z_isinstance => k_is)
    (case z_len => k_is)
    (case z_list => k_is)
    (case z_max => k_is)
    (case z_min => k_is)
    (case z_range => k_is)
    (case z_sorted => k_is)
    (case z_str => k_is)
    (case z_tuple => k_is)
    (case z_zip => k_is)
    (case g_InvalidStore => k_is); (case x_InvalidStore => k_exc); (case kk_InvalidStore => k_is); (case bb_InvalidStore => k_is); (case tt_InvalidStore => k_is); (case ii_InvalidStore => k_is)
    (case g_InvalidRoom => k_is); (case x_InvalidRoom => k_exc); (case kk_InvalidRoom => k_is); (case bb_InvalidRoom => k_is); (case tt_InvalidRoom => k_is); (case ii_InvalidRoom => k_is)
    (case g_InvalidPattern => k_is); (case x_InvalidPattern => k_exc); (case kk_InvalidPattern => k_is); (case bb_InvalidPattern => k_is); (case tt_InvalidPattern => k_is); (case ii_InvalidPattern => k_is)
    (case s_InvalidStore_InvalidStore => first | rfl | k_is)
    (case s_InvalidStore_InvalidRoom => first | rfl | k_is)
    (case s_InvalidStore_InvalidPattern => first | rfl | k_is)
    (case s_InvalidRoom_InvalidStore => first | rfl | k_is)
    (case s_InvalidRoom_InvalidRoom => first | rfl | k_is)
    (case s_InvalidRoom_InvalidPattern => first | rfl | k_is)
    (case s_InvalidPattern_InvalidStore => first | rfl | k_is)
    (case s_InvalidPattern_InvalidRoom => first | rfl | k_is)
    (case s_InvalidPattern_InvalidPattern => first | rfl | k_is)
#print axioms PySem.Challenge.cw_wireshell_k27_names_in_rooms_that_fit_holds

